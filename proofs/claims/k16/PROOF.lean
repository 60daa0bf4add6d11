import PyProof.Rows.All
import Wide.All
import OpenK.AllK
import Wide.FinOn
import HandS.ForMost
import HandS.ForExc
import HandS.Flow
import HandS.Style
import HandS.Wide
import HandS.IsInst
import HandS.StrMore
import HandS.Defaults
import HandS.ExcIs
import HandS.HotCalls
import HandS.HeadEnd
import HandS.HeadHook2
import HandS.Head2
import HandS.ExcCtx
import HandS.TryElse
import HandS.SuiteRaise
import HandS.Head0
import HandS.Head1
import HandS.Conv
import HandS.SortInts
import HandS.ReplaceList
import HandS.Replace
import HandS.EndBits
import HandS.Rev
import OpenK.KMake
import KE.KStateDown
import PySem.Challenge.RW_modehand_k16_counts
set_option Elab.async false
set_option linter.all false
set_option maxRecDepth 100000
set_option maxHeartbeats 2000000
/-! FL: a functional layer of my own over HandS: what a def computes as a plain function over data. Part 1: data, results, what stands where, expressions. -/
namespace FL
set_option autoImplicit false
abbrev St := L2.St
open PySem PySem.Spec PyProof.Rows L2

/-! ### data -/
/-- a value with all that hangs on it; a text by its code points -/
inductive D where
  | non | bl (b : Bool) | int (i : Int) | str (s : List Nat) | lst (ds : List D) | tup (ds : List D)
  | dct (kvs : List (Key × D))
  /-- the law's script -/
  | scr (ns : List Int)
  /-- a class or def of the module, by its name; a built-in class -/
  | glo (x : Str) | ty (n : String)
  /-- an instance of the module's class n, with its fields -/
  | obj (n : Str) (fs : List (Str × D))
  deriving Inhabited

def mk (l : List Nat) : Str := ⟨l.toArray⟩
/-- code points -/
def okS (s : List Nat) : Prop := ∀ c ∈ s, c < 1114112
theorem okS_of {s : List Nat} (h : (s.all fun c => decide (c < 1114112)) = true) : okS s := fun c hc => of_decide_eq_true (List.all_eq_true.mp h c hc)
theorem okS.app {a b : List Nat} (h : okS a) (h' : okS b) : okS (a ++ b) := fun c hc => (List.mem_append.mp hc).elim (h c) (h' c)
theorem mk_len (l : List Nat) : (mk l).length = l.length := by simp [mk, Str.length]
theorem mk_list (l : List Nat) : (mk l).cps.toList = l := by simp [mk]
theorem mk_inj {a b : List Nat} (h : mk a = mk b) : a = b := by
  have := congrArg (fun s : Str => s.cps.toList) h
  simpa [mk] using this
theorem mk_of (s : Str) : mk s.cps.toList = s := by simp [mk]
theorem mk_app (a b : List Nat) : mk a ++ mk b = mk (a ++ b) := by
  show Str.mk _ = Str.mk _
  simp [mk]
theorem mk_dec (a b : List Nat) : decide (V.str (mk a) = V.str (mk b)) = decide (a = b) := by
  by_cases h : a = b
  · subst h; simp
  · rw [decide_eq_false h, decide_eq_false]
    intro e
    exact h (mk_inj (V.str.inj e))

/-! ### results -/
/-- what an evaluation gives: a value; an exception of the module's class n, with its field; stuck: nothing is said -/
inductive R (α : Type) where
  | ok (a : α) | exc (n : Str) (d : Option D) | stuck
@[reducible] def R.bind {α β : Type} (r : R α) (f : α → R β) : R β := match r with
  | .ok a => f a
  | .exc n d => .exc n d
  | .stuck => .stuck
instance : Monad R where
  pure := R.ok
  bind := R.bind
theorem R.pure_eq {α : Type} (a : α) : (pure a : R α) = .ok a := rfl
theorem R.ok_bind {α β : Type} (a : α) (f : α → R β) : ((R.ok a : R α) >>= f) = f a := rfl
theorem R.exc_bind {α β : Type} (n : Str) (d : Option D) (f : α → R β) : ((R.exc n d : R α) >>= f) = .exc n d := rfl
theorem R.stuck_bind {α β : Type} (f : α → R β) : ((R.stuck : R α) >>= f) = .stuck := rfl

/-! ### what stands at a value -/
mutual
inductive Rep (K : PySem.W.Frag) (mg : Str → Option Value) (F : Hp) : D → V → Prop
  | non : Rep K mg F .non .non
  | bl (b : Bool) : Rep K mg F (.bl b) (.bl b)
  | int (i : Int) : Rep K mg F (.int i) (.int i)
  | str (s : List Nat) (h : okS s) : Rep K mg F (.str s) (.str (mk s))
  | lst {p : Addr} {xs : List V} {ds : List D} (h : F p = some (.lst xs)) (r : Reps K mg F ds xs) : Rep K mg F (.lst ds) (.ref p)
  | scr {p : Addr} {ns : List Int} (h : SqL K F p (ns.map V.int)) : Rep K mg F (.scr ns) (.ref p)
  | tup {p : Addr} {xs : List V} {ds : List D} (h : SqT K F p xs) (r : Reps K mg F ds xs) : Rep K mg F (.tup ds) (.ref p)
  | dct {p : Addr} {ks : List Key} {xs : List V} {ds : List D} (h : F p = some (.dK (ks.zip xs))) (r : Reps K mg F ds xs) (e : ks.length = ds.length) (nd : ks.Nodup) : Rep K mg F (.dct (ks.zip ds)) (.ref p)
  | glo {x : Str} {a : Addr} (h : mg x = some (.ref a)) : Rep K mg F (.glo x) (.ref a)
  | ty (n : String) : Rep K mg F (.ty n) (.ty n)
  | obj {p C dx : Addr} {n : Str} {ns : List Str} {xs : List V} {ds : List D} (hC : mg n = some (.ref C)) (h : F p = some (.ins C dx (ns.zip xs))) (r : Reps K mg F ds xs) (e : ns.length = ds.length) : Rep K mg F (.obj n (ns.zip ds)) (.ref p)
inductive Reps (K : PySem.W.Frag) (mg : Str → Option Value) (F : Hp) : List D → List V → Prop
  | nil : Reps K mg F [] []
  | cons {d : D} {v : V} {ds : List D} {xs : List V} (h : Rep K mg F d v) (r : Reps K mg F ds xs) : Reps K mg F (d :: ds) (v :: xs)
end

section
variable {K : PySem.W.Frag} {mg : Str → Option Value} {F F' H H' : Hp}
theorem sqT_same {a : Addr} {xs : List V} (e : Same F F') (h : SqT K F a xs) : SqT K F' a xs := by
  rcases h with (h | ⟨o, h⟩) | h
  · exact .inl (.inl (e _ _ h))
  · exact .inl (.inr ⟨o, e _ _ h⟩)
  · exact .inr h
mutual
theorem Rep.mono (e : Same F F') : ∀ {d : D} {v : V}, Rep K mg F d v → Rep K mg F' d v
  | _, _, .non => .non
  | _, _, .bl b => .bl b
  | _, _, .int i => .int i
  | _, _, .str s h => .str s h
  | _, _, .lst h r => .lst (e _ _ h) (Reps.mono e r)
  | _, _, .scr h => .scr (e.seq h)
  | _, _, .tup h r => .tup (sqT_same e h) (Reps.mono e r)
  | _, _, .dct h r l nd => .dct (e _ _ h) (Reps.mono e r) l nd
  | _, _, .glo h => .glo h
  | _, _, .ty n => .ty n
  | _, _, .obj hC h r l => .obj hC (e _ _ h) (Reps.mono e r) l
theorem Reps.mono (e : Same F F') : ∀ {ds : List D} {vs : List V}, Reps K mg F ds vs → Reps K mg F' ds vs
  | _, _, .nil => .nil
  | _, _, .cons h r => .cons (Rep.mono e h) (Reps.mono e r)
end
theorem Reps.length : ∀ {ds : List D} {vs : List V}, Reps K mg F ds vs → vs.length = ds.length
  | _, _, .nil => rfl
  | _, _, .cons _ r => by simp [Reps.length r]
theorem Reps.get : ∀ {ds : List D} {vs : List V} {i : Nat} {d : D}, Reps K mg F ds vs → ds[i]? = some d → ∃ v, vs[i]? = some v ∧ Rep K mg F d v
  | _, _, _, _, .nil, e => by simp at e
  | _, _, 0, _, .cons h _, e => by simp at e; subst e; exact ⟨_, rfl, h⟩
  | _, _, i + 1, d, .cons _ r, e => by
    obtain ⟨v, h1, h2⟩ := Reps.get (i := i) (d := d) r (by simpa using e)
    exact ⟨v, by simpa using h1, h2⟩
theorem Reps.append : ∀ {ds es : List D} {vs ws : List V}, Reps K mg F ds vs → Reps K mg F es ws → Reps K mg F (ds ++ es) (vs ++ ws)
  | _, _, _, _, .nil, s => s
  | _, _, _, _, .cons h r, s => .cons h (Reps.append r s)
theorem Reps.take : ∀ {ds : List D} {vs : List V} (n : Nat), Reps K mg F ds vs → Reps K mg F (ds.take n) (vs.take n)
  | _, _, 0, _ => .nil
  | _, _, _ + 1, .nil => .nil
  | _, _, n + 1, .cons h r => .cons h (Reps.take n r)
theorem Reps.drop : ∀ {ds : List D} {vs : List V} (n : Nat), Reps K mg F ds vs → Reps K mg F (ds.drop n) (vs.drop n)
  | _, _, 0, r => r
  | _, _, _ + 1, .nil => .nil
  | _, _, n + 1, .cons _ r => Reps.drop n r
theorem Reps.set : ∀ {ds : List D} {vs : List V} {d : D} {v : V} (i : Nat), Reps K mg F ds vs → Rep K mg F d v → Reps K mg F (ds.set i d) (vs.set i v)
  | _, _, _, _, _, .nil, _ => .nil
  | _, _, _, _, 0, .cons _ r, q => .cons q r
  | _, _, _, _, i + 1, .cons h r, q => .cons h (Reps.set i r q)
theorem Reps.reverse : ∀ {ds : List D} {vs : List V}, Reps K mg F ds vs → Reps K mg F ds.reverse vs.reverse
  | _, _, .nil => .nil
  | _, _, .cons h r => by
    rw [List.reverse_cons, List.reverse_cons]
    exact Reps.append (Reps.reverse r) (.cons h .nil)
theorem Reps.rep {ds : List D} {vs : List V} (r : Reps K mg F ds vs) : ∀ n : Nat, Reps K mg F (List.replicate n ds).flatten (List.replicate n vs).flatten
  | 0 => .nil
  | n + 1 => by
    rw [List.replicate_succ, List.replicate_succ, List.flatten_cons, List.flatten_cons]
    exact r.append (Reps.rep r n)

/-! ### heaps -/
/-- from (F, H) on: what is settled stays so, what stands stays, nothing that stood unsettled is settled -/
structure Ext (F H F' H' : Hp) : Prop where
  sF : Same F F'
  sH : Same H H'
  sub : Same F' H'
  sep : ∀ a o, H a = some o → F a = none → F' a = none
theorem Ext.refl (s : Same F H) : Ext F H F H := ⟨.refl F, .refl H, s, fun _ _ _ h => h⟩
theorem Ext.trans {F1 H1 : Hp} (a : Ext F H F1 H1) (b : Ext F1 H1 F' H') : Ext F H F' H' :=
  ⟨a.sF.trans b.sF, a.sH.trans b.sH, b.sub, fun c o h n => b.sep c o (a.sH c o h) (a.sep c o h n)⟩
theorem same_upd {p : Addr} {o : HO} (h : H p = none) : Same H (upd H p o) := fun b x e => by
  rw [upd_ne (ne_of_none e h)]
  exact e
theorem sub_none {p : Addr} (s : Same F H) (h : H p = none) : F p = none := s.free h
/-- a new object that is settled at once -/
theorem Ext.new {p : Addr} {o : HO} (s : Same F H) (h : H p = none) : Ext F H (upd F p o) (upd H p o) :=
  ⟨same_upd (sub_none s h), same_upd h, fun b x e => by
    by_cases hb : b = p
    · subst hb; rw [upd_same] at e ⊢; exact e
    · rw [upd_ne hb] at e ⊢; exact s b x e, fun a x e n => by rw [upd_ne (ne_of_none e h)]; exact n⟩
/-- a new object that is not -/
theorem Ext.raw {p : Addr} {o : HO} (s : Same F H) (h : H p = none) : Ext F H F (upd H p o) :=
  ⟨.refl F, same_upd h, s.trans (same_upd h), fun _ _ _ n => n⟩
/-- it is settled later -/
theorem Ext.settle {F0 H0 : Hp} {p : Addr} {o : HO} (e : Ext F0 H0 F H) (n0 : H0 p = none) (n : F p = none) (h : H p = some o) : Ext F0 H0 (upd F p o) H :=
  ⟨e.sF.trans (same_upd n), e.sH, fun b x q => by
    by_cases hb : b = p
    · subst hb; rw [upd_same] at q; cases q; exact h
    · rw [upd_ne hb] at q; exact e.sub b x q, fun a x q m => by
    rw [upd_ne (ne_of_none q n0)]; exact e.sep a x q m⟩
end

/-! ### the frame -/
inductive Slot where
  /-- nothing is said; a value that is settled; a list, a dict of the frame's own, that may change -/
  | no | val (d : D) | own (ds : List D) | ownd (kvs : List (Key × D))
  deriving Inhabited
abbrev Env := List Slot

/-- what is fixed in a def's run: the written part, the module's names, what is wished of exceptions, what is known of the slots besides; the entry's settled part, the entry's heap -/
structure Cg where
  K : PySem.W.Frag
  mg : Str → Option Value
  W : WX
  P : St → Prop
  F0 : Hp
  B : Hp
/-- a list of the frame's own -/
def OwnL (C : Cg) (p : Addr) (ds : List D) (F H : Hp) : Prop := ∃ xs, H p = some (.lst xs) ∧ F p = none ∧ C.B p = none ∧ Reps C.K C.mg F ds xs
def OwnD (C : Cg) (p : Addr) (kvs : List (Key × D)) (F H : Hp) : Prop := ∃ (ks : List Key) (ds : List D) (xs : List V), kvs = ks.zip ds ∧ ks.length = ds.length ∧ ks.Nodup ∧ H p = some (.dK (ks.zip xs)) ∧ F p = none ∧ C.B p = none ∧ Reps C.K C.mg F ds xs
def SlotOk (C : Cg) (s : Slot) (o : Option V) (F H : Hp) : Prop := match s with
  | .no => True
  | .val d => ∃ v, o = some v ∧ Rep C.K C.mg F d v
  | .own ds => ∃ p, o = some (.ref p) ∧ OwnL C p ds F H
  | .ownd kvs => ∃ p, o = some (.ref p) ∧ OwnD C p kvs F H
def Slot.isOwn : Slot → Bool
  | .own _ => true
  | .ownd _ => true
  | _ => false
structure EnvOk (C : Cg) (Γ : Env) (σ : St) (F H : Hp) : Prop where
  ext : Ext C.F0 C.B F H
  pre : C.P σ
  len : Γ.length = σ.length
  slot : ∀ (i : Nat) (s : Slot), Γ[i]? = some s → ∃ o, σ[i]? = some o ∧ SlotOk C s o F H
  dist : ∀ (i j : Nat) (s t : Slot) (p : Addr), Γ[i]? = some s → Γ[j]? = some t → s.isOwn = true → t.isOwn = true → σ[i]? = some (some (.ref p)) → σ[j]? = some (some (.ref p)) → i = j
section
variable {C : Cg} {Γ : Env} {σ : St} {F H F' H' : Hp}
theorem EnvOk.sub (e : EnvOk C Γ σ F H) : Same F H := e.ext.sub
theorem SlotOk.ext {s : Slot} {o : Option V} (q : SlotOk C s o F H) (x : Ext F H F' H') : SlotOk C s o F' H' := by
  cases s with
  | no => trivial
  | val d => obtain ⟨v, e, r⟩ := q; exact ⟨v, e, r.mono x.sF⟩
  | own ds => obtain ⟨p, e, xs, h1, h2, h3, r⟩ := q; exact ⟨p, e, xs, x.sH _ _ h1, x.sep _ _ h1 h2, h3, r.mono x.sF⟩
  | ownd kvs => obtain ⟨p, e, ks, ds, xs, e1, l, nd, h1, h2, h3, r⟩ := q; exact ⟨p, e, ks, ds, xs, e1, l, nd, x.sH _ _ h1, x.sep _ _ h1 h2, h3, r.mono x.sF⟩
theorem EnvOk.step (e : EnvOk C Γ σ F H) (x : Ext F H F' H') : EnvOk C Γ σ F' H' :=
  ⟨e.ext.trans x, e.pre, e.len, fun i s h => let ⟨o, h1, h2⟩ := e.slot i s h; ⟨o, h1, h2.ext x⟩, e.dist⟩
theorem EnvOk.val (e : EnvOk C Γ σ F H) {i : Nat} {d : D} (h : Γ[i]? = some (.val d)) : ∃ v, σ[i]? = some (some v) ∧ Rep C.K C.mg F d v := by
  obtain ⟨o, h1, v, h2, r⟩ := e.slot i _ h
  exact ⟨v, by rw [h1, h2], r⟩
theorem getElem?_set_cases {α : Type} {l : List α} {i j : Nat} {a b : α} (h : (l.set i a)[j]? = some b) : (j = i ∧ b = a ∧ i < l.length) ∨ (j ≠ i ∧ l[j]? = some b) := by
  by_cases hj : j = i
  · subst hj
    have hl : j < l.length := by
      have := (List.getElem?_eq_some_iff.mp h).1
      simpa using this
    rw [List.getElem?_set_self hl] at h
    exact .inl ⟨rfl, (Option.some.inj h).symm, hl⟩
  · rw [List.getElem?_set_ne (Ne.symm hj)] at h
    exact .inr ⟨hj, h⟩
/-- a slot is stored; what is said of the slots besides is not lost -/
theorem EnvOk.set (e : EnvOk C Γ σ F H) {i : Nat} {s : Slot} {o : Option V} (hp : C.P (σ.set i o)) (q : SlotOk C s o F H)
    (hd : s.isOwn = true → ∀ (j : Nat) (t : Slot) (p : Addr), j ≠ i → Γ[j]? = some t → t.isOwn = true → σ[j]? = some (some (.ref p)) → o ≠ some (.ref p)) : EnvOk C (Γ.set i s) (σ.set i o) F H := by
  refine ⟨e.ext, hp, by simp [e.len], fun j t h => ?_, fun j k s1 s2 p h1 h2 o1 o2 g1 g2 => ?_⟩
  · rcases getElem?_set_cases h with ⟨rfl, rfl, hl⟩ | ⟨hj, h⟩
    · exact ⟨o, by rw [List.getElem?_set_self (by rw [← e.len]; exact hl)], q⟩
    · obtain ⟨o', h1, h2⟩ := e.slot j t h
      exact ⟨o', by rw [List.getElem?_set_ne (Ne.symm hj)]; exact h1, h2⟩
  · rcases getElem?_set_cases h1 with ⟨rfl, rfl, hl⟩ | ⟨hj, h1'⟩
    · rcases getElem?_set_cases h2 with ⟨rfl, rfl, _⟩ | ⟨hk, h2⟩
      · rfl
      · rw [List.getElem?_set_self (by rw [← e.len]; exact hl)] at g1
        rw [List.getElem?_set_ne (Ne.symm hk)] at g2
        exact absurd (Option.some.inj g1) (hd o1 k s2 p hk h2 o2 g2)
    · rcases getElem?_set_cases h2 with ⟨rfl, rfl, hl⟩ | ⟨hk, h2⟩
      · rw [List.getElem?_set_self (by rw [← e.len]; exact hl)] at g2
        rw [List.getElem?_set_ne (Ne.symm hj)] at g1
        exact absurd (Option.some.inj g2) (hd o2 j s1 p hj h1' o1 g1)
      · rw [List.getElem?_set_ne (Ne.symm hj)] at g1
        rw [List.getElem?_set_ne (Ne.symm hk)] at g2
        exact e.dist j k s1 s2 p h1' h2 o1 o2 g1 g2
theorem EnvOk.setV (e : EnvOk C Γ σ F H) {i : Nat} {d : D} {v : V} (hp : C.P (σ.set i (some v))) (r : Rep C.K C.mg F d v) : EnvOk C (Γ.set i (.val d)) (σ.set i (some v)) F H :=
  e.set hp ⟨v, rfl, r⟩ fun z => by cases z
/-- the address of an own list is not that of another own slot's -/
theorem EnvOk.ownNe (e : EnvOk C Γ σ F H) {j : Nat} {t : Slot} {p : Addr} (h : Γ[j]? = some t) (o : t.isOwn = true) (g : σ[j]? = some (some (.ref p))) : ∃ u, H p = some u := by
  obtain ⟨o', h1, h2⟩ := e.slot j t h
  rw [g] at h1; cases h1
  cases t with
  | own ds => obtain ⟨q, e1, xs, h3, _⟩ := h2; cases e1; exact ⟨_, h3⟩
  | ownd kvs => obtain ⟨q, e1, ks, ds, xs, _, _, _, h3, _⟩ := h2; cases e1; exact ⟨_, h3⟩
  | _ => cases o
theorem EnvOk.setOwn (e : EnvOk C Γ σ F H) (x : Ext F H F' H') {i : Nat} {ds : List D} {p : Addr} {xs : List V} (hp : C.P (σ.set i (some (.ref p)))) (n : H p = none) (h : H' p = some (.lst xs)) (nF : F' p = none) (r : Reps C.K C.mg F' ds xs) :
    EnvOk C (Γ.set i (.own ds)) (σ.set i (some (.ref p))) F' H' := by
  refine (e.step x).set hp ⟨p, rfl, xs, h, nF, e.ext.sH.free n, r⟩ fun _ j t q hj ht ot hq z => ?_
  cases z
  obtain ⟨u, hu⟩ := e.ownNe ht ot hq
  rw [n] at hu; cases hu
theorem EnvOk.setOwnD (e : EnvOk C Γ σ F H) (x : Ext F H F' H') {i : Nat} {ks : List Key} {ds : List D} {p : Addr} {xs : List V} (hp : C.P (σ.set i (some (.ref p)))) (l : ks.length = ds.length) (nd : ks.Nodup) (n : H p = none) (h : H' p = some (.dK (ks.zip xs))) (nF : F' p = none) (r : Reps C.K C.mg F' ds xs) :
    EnvOk C (Γ.set i (.ownd (ks.zip ds))) (σ.set i (some (.ref p))) F' H' := by
  refine (e.step x).set hp ⟨p, rfl, ks, ds, xs, rfl, l, nd, h, nF, e.ext.sH.free n, r⟩ fun _ j t q hj ht ot hq z => ?_
  cases z
  obtain ⟨u, hu⟩ := e.ownNe ht ot hq
  rw [n] at hu; cases hu
/-- an own list, an own dict is changed -/
theorem EnvOk.mut (e : EnvOk C Γ σ F H) {i : Nat} {t s : Slot} {p : Addr} {o : HO} (ht : Γ[i]? = some t) (ot : t.isOwn = true) (os : s.isOwn = true) (g : σ[i]? = some (some (.ref p))) (nF : F p = none) (nB : C.B p = none) (q : SlotOk C s (some (.ref p)) F (upd H p o)) :
    EnvOk C (Γ.set i s) σ F (upd H p o) := by
  have other : ∀ j t', j ≠ i → Γ[j]? = some t' → t'.isOwn = true → σ[j]? ≠ some (some (.ref p)) := fun j t' hj h1 h2 h3 => hj (e.dist j i t' t p h1 ht h2 ot h3 g)
  refine ⟨⟨e.ext.sF, fun b x h => by rw [upd_ne (ne_of_none h nB)]; exact e.ext.sH b x h, fun b x h => by rw [upd_ne (ne_of_none h nF)]; exact e.ext.sub b x h, e.ext.sep⟩, e.pre, by simp [e.len], fun j u h => ?_, fun j k s1 s2 r h1 h2 o1 o2 g1 g2 => ?_⟩
  · rcases getElem?_set_cases h with ⟨rfl, rfl, hl⟩ | ⟨hj, h⟩
    · exact ⟨_, g, q⟩
    · obtain ⟨o', h1, h2⟩ := e.slot j u h
      refine ⟨o', h1, ?_⟩
      cases u with
      | no => trivial
      | val d => exact h2
      | own ds =>
        obtain ⟨r, e1, xs, h3, h4⟩ := h2
        subst e1
        refine ⟨r, rfl, xs, ?_, h4⟩
        rw [upd_ne]
        · exact h3
        · intro z; subst z; exact other j _ hj h rfl h1
      | ownd kvs =>
        obtain ⟨r, e1, ks, ds, xs, a1, a2, a3, h3, h4⟩ := h2
        subst e1
        refine ⟨r, rfl, ks, ds, xs, a1, a2, a3, ?_, h4⟩
        rw [upd_ne]
        · exact h3
        · intro z; subst z; exact other j _ hj h rfl h1
  · have own' : ∀ {j : Nat} {s1 : Slot}, (Γ.set i s)[j]? = some s1 → s1.isOwn = true → ∃ t', Γ[j]? = some t' ∧ t'.isOwn = true := fun {j s1} h o => by
      rcases getElem?_set_cases h with ⟨rfl, _, _⟩ | ⟨_, h⟩
      · exact ⟨t, ht, ot⟩
      · exact ⟨s1, h, o⟩
    obtain ⟨t1, a1, b1⟩ := own' h1 o1
    obtain ⟨t2, a2, b2⟩ := own' h2 o2
    exact e.dist j k t1 t2 r a1 a2 b1 b2 g1 g2
/-- an own list is settled -/
theorem EnvOk.settleAt (e : EnvOk C Γ σ F H) {i : Nat} {t : Slot} {d : D} {p : Addr} {o : HO} (h : Γ[i]? = some t) (ot : t.isOwn = true) (h1 : σ[i]? = some (some (.ref p))) (h3 : H p = some o) (h4 : F p = none) (h5 : C.B p = none) (r : Rep C.K C.mg (upd F p o) d (.ref p)) :
    EnvOk C (Γ.set i (.val d)) σ (upd F p o) H := by
  have s1 : Same F (upd F p o) := same_upd h4
  refine ⟨e.ext.settle h5 h4 h3, e.pre, by simp [e.len], fun j u g => ?_, fun j k s1 s2 q g1 g2 o1 o2 w1 w2 => ?_⟩
  · rcases getElem?_set_cases g with ⟨rfl, rfl, hl⟩ | ⟨hj, g⟩
    · exact ⟨_, h1, _, rfl, r⟩
    · obtain ⟨o', a1, a2⟩ := e.slot j u g
      refine ⟨o', a1, ?_⟩
      cases u with
      | no => trivial
      | val d => obtain ⟨v, b1, b2⟩ := a2; exact ⟨v, b1, b2.mono s1⟩
      | own ds =>
        obtain ⟨q, b1, xs, b2, b3, b4, b5⟩ := a2
        subst b1
        refine ⟨q, rfl, xs, b2, ?_, b4, b5.mono s1⟩
        rw [upd_ne]
        · exact b3
        · intro z; subst z; exact hj (e.dist j i _ _ q g h rfl ot a1 h1)
      | ownd kvs =>
        obtain ⟨q, b1, ks, ds, xs, c1, c2, c3, b2, b3, b4, b5⟩ := a2
        subst b1
        refine ⟨q, rfl, ks, ds, xs, c1, c2, c3, b2, ?_, b4, b5.mono s1⟩
        rw [upd_ne]
        · exact b3
        · intro z; subst z; exact hj (e.dist j i _ _ q g h rfl ot a1 h1)
  · rcases getElem?_set_cases g1 with ⟨rfl, rfl, _⟩ | ⟨_, g1⟩
    · cases o1
    · rcases getElem?_set_cases g2 with ⟨rfl, rfl, _⟩ | ⟨_, g2⟩
      · cases o2
      · exact e.dist j k s1 s2 q g1 g2 o1 o2 w1 w2
theorem EnvOk.settle (e : EnvOk C Γ σ F H) {i : Nat} {ds : List D} (h : Γ[i]? = some (.own ds)) : ∃ F', EnvOk C (Γ.set i (.val (.lst ds))) σ F' H ∧ Same F F' := by
  obtain ⟨o, h1, p, h2, xs, h3, h4, h5, r⟩ := e.slot i _ h
  subst h2
  exact ⟨_, e.settleAt h rfl h1 h3 h4 h5 (.lst upd_same (r.mono (same_upd h4))), same_upd h4⟩
theorem EnvOk.settleD (e : EnvOk C Γ σ F H) {i : Nat} {kvs : List (Key × D)} (h : Γ[i]? = some (.ownd kvs)) : ∃ F', EnvOk C (Γ.set i (.val (.dct kvs))) σ F' H ∧ Same F F' := by
  obtain ⟨o, h1, p, h2, ks, ds, xs, e1, l, nd, h3, h4, h5, r⟩ := e.slot i _ h
  subst h2 e1
  exact ⟨_, e.settleAt h rfl h1 h3 h4 h5 (.dct upd_same (r.mono (same_upd h4)) l nd), same_upd h4⟩
end

/-! ### what an evaluation's end asks -/
/-- an exception of the module's class n with its field -/
def ExcR (K : PySem.W.Frag) (mg : Str → Option Value) (n : Str) (d : Option D) (cls : Value) (dv : Option Addr) (F H : Hp) : Prop :=
  mg n = some cls ∧ (∃ C, cls = .ref C) ∧ match d with
    | none => dv = none
    | some x => ∃ a v, dv = some a ∧ H a = some (.xd [("number", v)]) ∧ Rep K mg F x v
def Post (C : Cg) (E : XK) (F H : Hp) {α : Type} (r : R α) (k : α → Hp → Hp → Prop) : Prop := match r with
  | .ok a => ∀ F' H', Ext F H F' H' → k a F' H'
  | .exc n d => ∀ F' H' cls dv, Ext F H F' H' → ExcR C.K C.mg n d cls dv F' H' → E cls dv H'
  | .stuck => False
section
variable {C : Cg} {E : XK} {Γ : Env} {σ : St} {F H F' H' : Hp} {α β : Type}
theorem Post.step {r : R α} {k : α → Hp → Hp → Prop} (h : Post C E F H r k) (x : Ext F H F' H') : Post C E F' H' r k := by
  cases r with
  | ok a => exact fun F2 H2 y => h F2 H2 (x.trans y)
  | exc n d => exact fun F2 H2 cls dv y q => h F2 H2 cls dv (x.trans y) q
  | stuck => exact h
theorem Post.bind {r : R α} {f : α → R β} {k : β → Hp → Hp → Prop} {k' : α → Hp → Hp → Prop} (h : Post C E F H (r >>= f) k) (hk : ∀ a F' H', Ext F H F' H' → Post C E F' H' (f a) k → k' a F' H') : Post C E F H r k' := by
  cases r with
  | ok a => exact fun F' H' x => hk a F' H' x (Post.step (show Post C E F H (f a) k from h) x)
  | exc n d => exact h
  | stuck => exact h
theorem Post.imp {r : R α} {k k' : α → Hp → Hp → Prop} (h : Post C E F H r k) (hk : ∀ a F' H', Ext F H F' H' → k a F' H' → k' a F' H') : Post C E F H r k' := by
  cases r with
  | ok a => exact fun F' H' x => hk a F' H' x (h F' H' x)
  | exc n d => exact h
  | stuck => exact h
end
abbrev kV (C : Cg) (Q : VK) : D → Hp → Hp → Prop := fun d F' H' => ∀ v, Rep C.K C.mg F' d v → Q v H'
/-- what may be read: settled, or a list of the frame's own -/
def RepR (C : Cg) (F H : Hp) (d : D) (v : V) : Prop := Rep C.K C.mg F d v ∨ ∃ p ds xs, d = .lst ds ∧ v = .ref p ∧ H p = some (.lst xs) ∧ F p = none ∧ Reps C.K C.mg F ds xs
/-- a new list, not settled -/
def kL (C : Cg) (H : Hp) (Q : VK) : List D → Hp → Hp → Prop := fun ds F' H' => ∀ p xs, H p = none → H' p = some (.lst xs) → F' p = none → Reps C.K C.mg F' ds xs → Q (.ref p) H'

/-! ### judgements: an expression, its reading by the layer, its plain function -/
structure FE (X : Cx) (C : Cg) (e : Expr) (t : TE) (m : Env → R D) : Prop where
  pe : PE X e t
  rd : ∀ Γ σ F H Q, EnvOk C Γ σ F H → Post C (WE C.W σ) F H (m Γ) (kV C Q) → t σ H Q
/-- a readable value -/
structure FR (X : Cx) (C : Cg) (e : Expr) (t : TE) (m : Env → R D) : Prop where
  pe : PE X e t
  rd : ∀ Γ σ F H Q, EnvOk C Γ σ F H → Post C (WE C.W σ) F H (m Γ) (fun d F' H' => ∀ v, RepR C F' H' d v → Q v H') → t σ H Q
/-- a new list -/
structure FL (X : Cx) (C : Cg) (e : Expr) (t : TE) (m : Env → R (List D)) : Prop where
  pe : PE X e t
  rd : ∀ Γ σ F H Q, EnvOk C Γ σ F H → Post C (WE C.W σ) F H (m Γ) (kL C H Q) → t σ H Q
structure FT (X : Cx) (C : Cg) (e : Expr) (t : TT) (m : Env → R Bool) : Prop where
  pt : PT X e t
  rd : ∀ Γ σ F H Q, EnvOk C Γ σ F H → Post C (WE C.W σ) F H (m Γ) (fun b _ H' => Q b H') → t σ H Q
structure FW (X : Cx) (C : Cg) (e : Expr) (t : TT) (m : Env → R Bool) : Prop where
  pw : PW X e t
  rd : ∀ Γ σ F H Q, EnvOk C Γ σ F H → Post C (WE C.W σ) F H (m Γ) (fun b _ H' => Q b H') → t σ H Q
structure FA (X : Cx) (C : Cg) (es : List Expr) (t : TA) (m : Env → R (List D)) : Prop where
  pa : PA X es t
  rd : ∀ Γ σ F H Q, EnvOk C Γ σ F H → Post C (WE C.W σ) F H (m Γ) (fun ds F' H' => ∀ vs, Reps C.K C.mg F' ds vs → Q vs H') → t σ H Q
end FL

set_option Elab.async false
set_option linter.all false
set_option maxRecDepth 100000
set_option maxHeartbeats 2000000
/-! FL, part 2: expressions. -/
namespace FL
open PySem PySem.Spec PyProof.Rows L2
set_option autoImplicit false
section
variable {C : Cg} {F H F' H' : Hp} {d : D} {v : V}
theorem RepR.ext (x : Ext F H F' H') (h : RepR C F H d v) : RepR C F' H' d v := by
  rcases h with h | ⟨p, ds, xs, h1, h2, h3, h4, h5⟩
  · exact .inl (h.mono x.sF)
  · exact .inr ⟨p, ds, xs, h1, h2, x.sH _ _ h3, x.sep _ _ h3 h4, h5.mono x.sF⟩
theorem RepR.lst (s : Same F H) {ds : List D} (h : RepR C F H (.lst ds) v) : ∃ p xs, v = .ref p ∧ H p = some (.lst xs) ∧ Reps C.K C.mg F ds xs := by
  rcases h with h | ⟨p, ds', xs, h1, h2, h3, h4, h5⟩
  · cases h with
    | lst h r => exact ⟨_, _, rfl, s _ _ h, r⟩
  · cases h1; exact ⟨p, xs, h2, h3, h5⟩
theorem RepR.int {i : Int} (h : RepR C F H (.int i) v) : v = .int i := by
  rcases h with h | ⟨p, ds', xs, h1, _⟩
  · cases h; rfl
  · cases h1
theorem RepR.bl {i : Bool} (h : RepR C F H (.bl i) v) : v = .bl i := by
  rcases h with h | ⟨p, ds', xs, h1, _⟩
  · cases h; rfl
  · cases h1
theorem RepR.non (h : RepR C F H .non v) : v = .non := by
  rcases h with h | ⟨p, ds', xs, h1, _⟩
  · cases h; rfl
  · cases h1
theorem RepR.str {i : List Nat} (h : RepR C F H (.str i) v) : v = .str (mk i) ∧ okS i := by
  rcases h with h | ⟨p, ds', xs, h1, _⟩
  · cases h with
    | str _ h => exact ⟨rfl, h⟩
  · cases h1
theorem RepR.ty {n : String} (h : RepR C F H (.ty n) v) : v = .ty n := by
  rcases h with h | ⟨p, ds', xs, h1, _⟩
  · cases h; rfl
  · cases h1
theorem RepR.glo {n : Str} (h : RepR C F H (.glo n) v) : ∃ a, v = .ref a ∧ C.mg n = some (.ref a) := by
  rcases h with h | ⟨p, ds', xs, h1, _⟩
  · cases h with
    | glo h => exact ⟨_, rfl, h⟩
  · cases h1
theorem RepR.tup (s : Same F H) {ds : List D} (h : RepR C F H (.tup ds) v) : ∃ p xs, v = .ref p ∧ SqT C.K H p xs ∧ Reps C.K C.mg F ds xs := by
  rcases h with h | ⟨p, ds', xs, h1, _⟩
  · cases h with
    | tup h r => exact ⟨_, _, rfl, sqT_same s h, r⟩
  · cases h1
theorem RepR.scr (s : Same F H) {ns : List Int} (h : RepR C F H (.scr ns) v) : ∃ p, v = .ref p ∧ SqL C.K H p (ns.map V.int) := by
  rcases h with h | ⟨p, ds', xs, h1, _⟩
  · cases h with
    | scr h => exact ⟨_, rfl, s.seq h⟩
  · cases h1
theorem RepR.dct (s : Same F H) {kvs : List (Key × D)} (h : RepR C F H (.dct kvs) v) : ∃ (p : Addr) (ks : List Key) (xs : List V) (ds : List D), v = .ref p ∧ kvs = ks.zip ds ∧ ks.length = ds.length ∧ ks.Nodup ∧ H p = some (.dK (ks.zip xs)) ∧ Reps C.K C.mg F ds xs := by
  rcases h with h | ⟨p, ds', xs, h1, _⟩
  · generalize e : D.dct kvs = d at h
    cases h with
    | dct h r l nd => cases e; exact ⟨_, _, _, _, rfl, rfl, l, nd, s _ _ h, r⟩
    | _ => cases e
  · cases h1
theorem reps_ints {ns : List Int} : Reps C.K C.mg F (ns.map D.int) (ns.map V.int) := by
  induction ns with
  | nil => exact .nil
  | cons n ns ih => exact .cons (.int n) ih
end
/-- readable values -/
inductive RepRs (C : Cg) (F H : Hp) : List D → List V → Prop
  | nil : RepRs C F H [] []
  | cons {d : D} {v : V} {ds : List D} {vs : List V} (h : RepR C F H d v) (r : RepRs C F H ds vs) : RepRs C F H (d :: ds) (v :: vs)
theorem RepRs.ext {C : Cg} {F H F' H' : Hp} (x : Ext F H F' H') : ∀ {ds : List D} {vs : List V}, RepRs C F H ds vs → RepRs C F' H' ds vs
  | _, _, .nil => .nil
  | _, _, .cons h r => .cons (h.ext x) (r.ext x)
/-- arguments of a built-in: readable -/
structure FB (X : Cx) (C : Cg) (es : List Expr) (t : TA) (m : Env → R (List D)) : Prop where
  pa : PA X es t
  rd : ∀ Γ σ F H Q, EnvOk C Γ σ F H → Post C (WE C.W σ) F H (m Γ) (fun ds F' H' => ∀ vs, RepRs C F' H' ds vs → Q vs H') → t σ H Q

section
variable {X : Cx} {C : Cg} {a b c : Expr} {ta tb tc : TE} {ma mb mc : Env → R D} {pos : Pos}
theorem FE.r (h : FE X C a ta ma) : FR X C a ta ma := ⟨h.pe, fun Γ σ F H Q e p => h.rd Γ σ F H Q e (p.imp fun _ _ _ _ q v r => q v (.inl r))⟩
/-- a new list is settled -/
theorem FL.e {m : Env → R (List D)} (h : FL X C a ta m) : FE X C a ta (fun Γ => do let x ← m Γ; pure (.lst x)) := ⟨h.pe, fun Γ σ F H Q e p => h.rd Γ σ F H Q e (by
  revert p
  show Post C (WE C.W σ) F H (m Γ >>= fun x => pure (.lst x)) (kV C Q) → _
  cases m Γ with
  | ok ds => exact fun p F' H' x q xs n hp nF r => p _ _ (x.settle n nF hp) _ (.lst upd_same (r.mono (same_upd nF)))
  | exc n d => exact id
  | stuck => exact id)⟩
theorem FL.r {m : Env → R (List D)} (h : FL X C a ta m) : FR X C a ta (fun Γ => do let x ← m Γ; pure (.lst x)) := ⟨h.pe, fun Γ σ F H Q e p => h.rd Γ σ F H Q e (Post.bind p fun ds F' H' x q pp xs n hp nF r => q F' H' (Ext.refl x.sub) _ (.inr ⟨pp, ds, xs, rfl, rfl, hp, nF, r⟩))⟩

/-! ### names, constants -/
def mVar (i : Nat) : Env → R D := fun Γ => match Γ[i]? with
  | some (.val d) => .ok d
  | _ => .stuck
def mVarR (i : Nat) : Env → R D := fun Γ => match Γ[i]? with
  | some (.val d) => .ok d
  | some (.own ds) => .ok (.lst ds)
  | _ => .stuck
theorem fe_var {i : Nat} {x : Str} (h : PE X (.Name x pos) (tVar i)) : FE X C (.Name x pos) (tVar i) (mVar i) := ⟨h, fun Γ σ F H Q e p => by
  unfold mVar at p
  split at p
  · rename_i d hd
    obtain ⟨v, h1, r⟩ := e.val hd
    exact ⟨v, h1, p F H (Ext.refl e.sub) v r⟩
  · exact p.elim⟩
theorem fr_var {i : Nat} {x : Str} (h : PE X (.Name x pos) (tVar i)) : FR X C (.Name x pos) (tVar i) (mVarR i) := ⟨h, fun Γ σ F H Q e p => by
  unfold mVarR at p
  split at p
  · rename_i d hd
    obtain ⟨v, h1, r⟩ := e.val hd
    exact ⟨v, h1, p F H (Ext.refl e.sub) v (.inl r)⟩
  · rename_i ds hd
    obtain ⟨o, h1, q, h2, xs, h3, h4, h5, r⟩ := e.slot i _ hd
    subst h2
    exact ⟨_, h1, p F H (Ext.refl e.sub) _ (.inr ⟨q, ds, xs, rfl, rfl, h3, h4, r⟩)⟩
  · exact p.elim⟩
/-- a constant -/
def mC (d : D) : Env → R D := fun _ => .ok d
theorem fe_tC {e : Expr} {v : V} {d : D} (h : PE X e (tC v)) (r : ∀ F, Rep C.K C.mg F d v) : FE X C e (tC v) (mC d) := ⟨h, fun Γ σ F H Q e p => p F H (Ext.refl e.sub) v (r F)⟩
theorem fe_int {i : Int} {j : Nat} : FE X C (.Constant (.int i) j pos) (tC (.int i)) (mC (.int i)) := fe_tC pe_int fun _ => .int i
theorem fe_bl {i : Bool} {j : Nat} : FE X C (.Constant (.bool i) j pos) (tC (.bl i)) (mC (.bl i)) := fe_tC pe_bl fun _ => .bl i
theorem fe_non {j : Nat} : FE X C (.Constant .none j pos) (tC .non) (mC .non) := fe_tC pe_non fun _ => .non
theorem fe_str {x : Str} {j : Nat} (l : List Nat) (h : x = mk l) (ok : (l.all fun c => decide (c < 1114112)) = true) : FE X C (.Constant (.str x) j pos) (tC (.str x)) (mC (.str l)) := fe_tC pe_str fun _ => by rw [h]; exact .str l (okS_of ok)
/-- a module's constant, class, def -/
theorem fe_glob {x : Str} {u : Value} {v : V} (d : D) (hg : Gl X x) (hm : X.mg x = some u) (r : RelV v u) (q : ∀ F, Rep C.K C.mg F d v) (hd : (x == ("__debug__" : Str)) = false := by decide) : FE X C (.Name x pos) (tC v) (mC d) := fe_tC (pe_glob hg hm r hd) q
/-- a built-in class -/
theorem fe_ty {x : Str} (n : String) (hg : Gl X x) (hm : X.mg x = none) (hv : bootBuiltins x = some (.type n)) (hn : x ≠ "__name__" := by decide) (hd : (x == ("__debug__" : Str)) = false := by decide) : FE X C (.Name x pos) (tC (.ty n)) (mC (.ty n)) := fe_tC (pe_bltn hg hm hv rfl hn hd) fun _ => .ty n

/-! ### operators by values -/
def OpS (C : Cg) (r : R2) (g : D → D → R D) : Prop := ∀ (d1 d2 : D) (v1 v2 : V) (F H : Hp) (E : XK) (Q : VK), Same F H → RepR C F H d1 v1 → RepR C F H d2 v2 → Post C E F H (g d1 d2) (kV C Q) → r v1 v2 H Q
def mOp (g : D → D → R D) (ma mb : Env → R D) : Env → R D := fun Γ => do let x ← ma Γ; let y ← mb Γ; g x y
theorem op_rd {r : R2} {g : D → D → R D} (hs : OpS C r g) (ha : FR X C a ta ma) (hb : FR X C b tb mb) : ∀ Γ σ F H Q, EnvOk C Γ σ F H → Post C (WE C.W σ) F H (mOp g ma mb Γ) (kV C Q) → tOp r ta tb σ H Q := fun Γ σ F H Q e p =>
  ha.rd Γ σ F H _ e (Post.bind p fun x F1 H1 x1 p1 v1 r1 => hb.rd Γ σ F1 H1 _ (e.step x1) (Post.bind p1 fun y F2 H2 x2 p2 v2 r2 => hs x y v1 v2 F2 H2 _ Q x2.sub (r1.ext x2) r2 p2))
theorem fe_op {op : Operator} {r : R2} {g : D → D → R D} (ho : OpR X (binaryOp op) r) (hs : OpS C r g) (ha : FR X C a ta ma) (hb : FR X C b tb mb) : FE X C (.BinOp a op b pos) (tOp r ta tb) (mOp g ma mb) :=
  ⟨pe_op ho ha.pe hb.pe, op_rd hs ha hb⟩
theorem fe_cmpo {op : CmpOp} {r : R2} {g : D → D → R D} (ho : OpR X (compareOp op) r) (hs : OpS C r g) (ha : FR X C a ta ma) (hb : FR X C b tb mb) (hm : behindInMarks op b = false) : FE X C (.Compare a [op] [b] pos) (tOp r ta tb) (mOp g ma mb) :=
  ⟨pe_cmpR ho ha.pe hb.pe hm, op_rd hs ha hb⟩
theorem fe_ix {r : R2} {g : D → D → R D} (ho : IxR X r) (hs : OpS C r g) (ha : FR X C a ta ma) (hb : FR X C b tb mb) (h : PlainIx b) : FE X C (.Subscript a b pos) (tOp r ta tb) (mOp g ma mb) :=
  ⟨pe_ix ho ha.pe hb.pe h, op_rd hs ha hb⟩
/-- a truth as a test -/
def asB : D → R Bool
  | .bl b => .ok b
  | _ => .stuck
def mT (m : Env → R D) : Env → R Bool := fun Γ => do let x ← m Γ; asB x
theorem tB_rd {t : TE} {m : Env → R D} (h : ∀ Γ σ F H Q, EnvOk C Γ σ F H → Post C (WE C.W σ) F H (m Γ) (kV C Q) → t σ H Q) : ∀ Γ σ F H Q, EnvOk C Γ σ F H → Post C (WE C.W σ) F H (mT m Γ) (fun b _ H' => Q b H') → tTest t σ H Q := fun Γ σ F H Q e p =>
  h Γ σ F H _ e (Post.bind p fun x F1 H1 x1 p1 v r => by
    cases r with
    | bl b => exact ⟨b, rfl, p1 F1 H1 (Ext.refl x1.sub)⟩
    | _ => exact p1.elim)
theorem ft_cmp {op : CmpOp} {r : R2} {g : D → D → R D} (ho : OpR X (compareOp op) r) (hs : OpS C r g) (ha : FR X C a ta ma) (hb : FR X C b tb mb) (hm : behindInMarks op b = false) : FT X C (.Compare a [op] [b] pos) (tTest (tOp r ta tb)) (mT (mOp g ma mb)) :=
  ⟨pt_cmpR ho ha.pe hb.pe hm, tB_rd (op_rd hs ha hb)⟩
theorem ft_val (h : FE X C a ta ma) (he : ∀ whole, isTrue a X.env whole = (do let v ← whole; standAt a.pos; holding [v] (truthy v)) := by intro _; rfl) : FT X C a (tB ta) (mT ma) :=
  ⟨pt_val h.pe he, tB_rd h.rd⟩
/-! ### and, or, not, if -/
def mAnd (p q : Env → R Bool) : Env → R Bool := fun Γ => do let x ← p Γ; if x then q Γ else pure false
def mOr (p q : Env → R Bool) : Env → R Bool := fun Γ => do let x ← p Γ; if x then pure true else q Γ
def mNot (p : Env → R Bool) : Env → R Bool := fun Γ => do let x ← p Γ; pure (!x)
section
variable {tA tB' : TT} {rest : List Expr} {mA mB : Env → R Bool}
theorem FW.t {e : Expr} (h : FW X C e tA mA) : FT X C e tA mA := ⟨h.pw.pt, h.rd⟩
theorem fw_and1 (ha : FT X C a tA mA) : FW X C (.BoolOp .And [a] pos) tA mA := ⟨pw_and1 ha.pt, ha.rd⟩
theorem fw_or1 (ha : FT X C a tA mA) : FW X C (.BoolOp .Or [a] pos) tA mA := ⟨pw_or1 ha.pt, ha.rd⟩
theorem fw_and (ha : FT X C a tA mA) (hb : FW X C (.BoolOp .And (b :: rest) pos) tB' mB) : FW X C (.BoolOp .And (a :: b :: rest) pos) (tAnd tA tB') (mAnd mA mB) :=
  ⟨pw_and ha.pt hb.pw, fun Γ σ F H Q e p => ha.rd Γ σ F H _ e (Post.bind p fun x F1 H1 x1 p1 => by
    cases x with
    | true => exact iteT (hb.rd Γ σ F1 H1 Q (e.step x1) p1)
    | false => exact iteF (p1 F1 H1 (Ext.refl x1.sub)))⟩
theorem fw_or (ha : FT X C a tA mA) (hb : FW X C (.BoolOp .Or (b :: rest) pos) tB' mB) : FW X C (.BoolOp .Or (a :: b :: rest) pos) (tOr tA tB') (mOr mA mB) :=
  ⟨pw_or ha.pt hb.pw, fun Γ σ F H Q e p => ha.rd Γ σ F H _ e (Post.bind p fun x F1 H1 x1 p1 => by
    cases x with
    | true => exact iteT (p1 F1 H1 (Ext.refl x1.sub))
    | false => exact iteF (hb.rd Γ σ F1 H1 Q (e.step x1) p1))⟩
theorem ft_not (ha : FT X C a tA mA) : FT X C (.UnaryOp .Not a pos) (tNot tA) (mNot mA) :=
  ⟨pt_not ha.pt, fun Γ σ F H Q e p => ha.rd Γ σ F H _ e (Post.bind p fun x F1 H1 x1 p1 => p1 F1 H1 (Ext.refl x1.sub))⟩
end
def mAndV (p q : Env → R D) : Env → R D := fun Γ => do let x ← p Γ; let k ← asB x; if k then q Γ else pure (.bl false)
def mOrV (p q : Env → R D) : Env → R D := fun Γ => do let x ← p Γ; let k ← asB x; if k then pure (.bl true) else q Γ
def mNotV (p : Env → R D) : Env → R D := fun Γ => do let x ← p Γ; let k ← asB x; pure (.bl (!k))
def mIf (p : Env → R Bool) (q r : Env → R D) : Env → R D := fun Γ => do let x ← p Γ; if x then q Γ else r Γ
theorem fe_one {op : BoolOp} (h : FE X C a ta ma) : FE X C (.BoolOp op [a] pos) ta ma := ⟨pe_one h.pe, h.rd⟩
theorem fe_and {rest : List Expr} (ha : FE X C a ta ma) (hb : FE X C (.BoolOp .And (b :: rest) pos) tb mb) : FE X C (.BoolOp .And (a :: b :: rest) pos) (tAndV ta tb) (mAndV ma mb) :=
  ⟨pe_and ha.pe hb.pe, fun Γ σ F H Q e p => ha.rd Γ σ F H _ e (Post.bind p fun x F1 H1 x1 p1 v r => by
    cases r with
    | bl k =>
      cases k with
      | true => exact ⟨true, rfl, iteT (hb.rd Γ σ F1 H1 Q (e.step x1) p1)⟩
      | false => exact ⟨false, rfl, iteF (p1 F1 H1 (Ext.refl x1.sub) _ (.bl false))⟩
    | _ => exact p1.elim)⟩
theorem fe_or {rest : List Expr} (ha : FE X C a ta ma) (hb : FE X C (.BoolOp .Or (b :: rest) pos) tb mb) : FE X C (.BoolOp .Or (a :: b :: rest) pos) (tOrV ta tb) (mOrV ma mb) :=
  ⟨pe_or ha.pe hb.pe, fun Γ σ F H Q e p => ha.rd Γ σ F H _ e (Post.bind p fun x F1 H1 x1 p1 v r => by
    cases r with
    | bl k =>
      cases k with
      | true => exact ⟨true, rfl, iteT (p1 F1 H1 (Ext.refl x1.sub) _ (.bl true))⟩
      | false => exact ⟨false, rfl, iteF (hb.rd Γ σ F1 H1 Q (e.step x1) p1)⟩
    | _ => exact p1.elim)⟩
theorem fe_not (ha : FE X C a ta ma) : FE X C (.UnaryOp .Not a pos) (tNotV ta) (mNotV ma) :=
  ⟨pe_not ha.pe, fun Γ σ F H Q e p => ha.rd Γ σ F H _ e (Post.bind p fun x F1 H1 x1 p1 v r => by
    cases r with
    | bl k => exact ⟨k, rfl, p1 F1 H1 (Ext.refl x1.sub) _ (.bl _)⟩
    | _ => exact p1.elim)⟩
theorem fe_ifExp {cd : Expr} {tA : TT} {mA : Env → R Bool} (hc : FT X C cd tA mA) (ha : FE X C a ta ma) (hb : FE X C b tb mb) : FE X C (.IfExp cd a b pos) (tIf tA ta tb) (mIf mA ma mb) :=
  ⟨pe_ifExp hc.pt ha.pe hb.pe, fun Γ σ F H Q e p => hc.rd Γ σ F H _ e (Post.bind p fun x F1 H1 x1 p1 => by
    cases x with
    | true => exact iteT (ha.rd Γ σ F1 H1 Q (e.step x1) p1)
    | false => exact iteF (hb.rd Γ σ F1 H1 Q (e.step x1) p1))⟩

/-! ### arguments, displays -/
def mNil : Env → R (List D) := fun _ => pure []
def mCons (ma : Env → R D) (mr : Env → R (List D)) : Env → R (List D) := fun Γ => do let x ← ma Γ; let xs ← mr Γ; pure (x :: xs)
section
variable {es : List Expr} {t : TA} {m : Env → R (List D)}
theorem fa_nil : FA X C [] tNil mNil := ⟨pa_nil, fun Γ σ F H Q e p => p F H (Ext.refl e.sub) [] .nil⟩
theorem fa_cons (ha : FE X C a ta ma) (hr : FA X C es t m) (hs : starEach (a :: es) X.env = (false, eval a X.env) :: starEach es X.env := by rfl) : FA X C (a :: es) (tCons ta t) (mCons ma m) :=
  ⟨pa_cons ha.pe hr.pa hs, fun Γ σ F H Q e p => ha.rd Γ σ F H _ e (Post.bind p fun x F1 H1 x1 p1 v r => hr.rd Γ σ F1 H1 _ (e.step x1) (Post.bind p1 fun xs F2 H2 x2 p2 vs rs => p2 F2 H2 (Ext.refl x2.sub) _ (.cons (r.mono x2.sF) rs)))⟩
theorem fb_nil : FB X C [] tNil mNil := ⟨pa_nil, fun Γ σ F H Q e p => p F H (Ext.refl e.sub) [] .nil⟩
theorem fb_cons (ha : FR X C a ta ma) (hr : FB X C es t m) (hs : starEach (a :: es) X.env = (false, eval a X.env) :: starEach es X.env := by rfl) : FB X C (a :: es) (tCons ta t) (mCons ma m) :=
  ⟨pa_cons ha.pe hr.pa hs, fun Γ σ F H Q e p => ha.rd Γ σ F H _ e (Post.bind p fun x F1 H1 x1 p1 v r => hr.rd Γ σ F1 H1 _ (e.step x1) (Post.bind p1 fun xs F2 H2 x2 p2 vs rs => p2 F2 H2 (Ext.refl x2.sub) _ (.cons (r.ext x2) rs)))⟩
def mTup (m : Env → R (List D)) : Env → R D := fun Γ => do let xs ← m Γ; if xs.length ≤ 16777216 then pure (.tup xs) else .stuck
theorem fe_tup {k : Nat} (h : FA X C es t m) : FE X C (.Tuple es k pos) (tTup t) (mTup m) :=
  ⟨pe_tup h.pa, fun Γ σ F H Q e p => h.rd Γ σ F H _ e (Post.bind p fun xs F1 H1 x1 p1 vs rs => by
    have hl := rs.length
    split at p1
    · rename_i hz
      exact ⟨by rw [hl, sizeLine_eq]; exact hz, fun p n => p1 _ _ (Ext.new x1.sub n) _ (.tup (.inl (.inl upd_same)) (rs.mono (same_upd (sub_none x1.sub n))))⟩
    · exact p1.elim)⟩
def mLst (m : Env → R (List D)) : Env → R (List D) := fun Γ => do let xs ← m Γ; if xs.length ≤ 16777216 then pure xs else .stuck
theorem fl_lst (h : FA X C es t m) : FL X C (.List es pos) (tLst t) (mLst m) :=
  ⟨pe_lst h.pa, fun Γ σ F H Q e p => h.rd Γ σ F H _ e (Post.bind p fun xs F1 H1 x1 p1 vs rs => by
    have hl := rs.length
    split at p1
    · rename_i hz
      exact ⟨by rw [hl, sizeLine_eq]; exact hz, fun p n => p1 _ _ (Ext.raw x1.sub n) p vs (x1.sH.free n) upd_same (sub_none x1.sub n) rs⟩
    · exact p1.elim)⟩
end
end
end FL

set_option Elab.async false
set_option linter.all false
set_option maxRecDepth 100000
set_option maxHeartbeats 2000000
/-! FL, part 3: statements, loops, defs, calls. -/
namespace FL
open PySem PySem.Spec PyProof.Rows L2
set_option autoImplicit false
/-- how a statement ends -/
inductive SO where
  | nx (Γ : Env) | rt (d : D) | rtL (ds : List D) | bk (Γ : Env) | ct (Γ : Env) | ex (Γ : Env) (n : Str) (d : Option D) | stuck
def lift {α : Type} (Γ : Env) (r : R α) (k : α → SO) : SO := match r with
  | .ok a => k a
  | .exc n d => .ex Γ n d
  | .stuck => .stuck
def SO.bind (s : SO) (k : Env → SO) : SO := match s with
  | .nx Γ => k Γ
  | s => s
def PostS (C : Cg) (F : Hp) (D : Ends) (s : SO) : Prop := match s with
  | .nx Γ => ∀ σ' F' H', EnvOk C Γ σ' F' H' → Same F F' → D.nx σ' H'
  | .rt d => ∀ v F' H', Ext C.F0 C.B F' H' → Rep C.K C.mg F' d v → D.rt v H'
  | .rtL ds => ∀ p xs F' H', Ext C.F0 C.B F' H' → C.B p = none → F' p = none → H' p = some (.lst xs) → Reps C.K C.mg F' ds xs → D.rt (.ref p) H'
  | .bk Γ => ∀ σ' F' H', EnvOk C Γ σ' F' H' → Same F F' → D.bk σ' H'
  | .ct Γ => ∀ σ' F' H', EnvOk C Γ σ' F' H' → Same F F' → D.ct σ' H'
  | .ex Γ n d => ∀ σ' F' H' cls dv, EnvOk C Γ σ' F' H' → Same F F' → ExcR C.K C.mg n d cls dv F' H' → C.W cls dv σ' H'
  | .stuck => False
section
variable {C : Cg} {F F' H H' : Hp} {D : Ends} {s : SO} {Γ : Env} {σ : St}
theorem PostS.step (h : PostS C F D s) (x : Same F F') : PostS C F' D s := by
  cases s with
  | nx Γ => exact fun σ' F2 H2 e y => h σ' F2 H2 e (x.trans y)
  | rt d => exact h
  | rtL ds => exact h
  | bk Γ => exact fun σ' F2 H2 e y => h σ' F2 H2 e (x.trans y)
  | ct Γ => exact fun σ' F2 H2 e y => h σ' F2 H2 e (x.trans y)
  | ex Γ n d => exact fun σ' F2 H2 cls dv e y q => h σ' F2 H2 cls dv e (x.trans y) q
  | stuck => exact h
theorem PostS.lift {α : Type} {r : R α} {k : α → SO} {kk : α → Hp → Hp → Prop} (h : PostS C F D (lift Γ r k)) (e : EnvOk C Γ σ F H) (hk : ∀ a F' H', Ext F H F' H' → PostS C F' D (k a) → kk a F' H') : Post C (WE C.W σ) F H r kk := by
  cases r with
  | ok a => exact fun F' H' x => hk a F' H' x (PostS.step (show PostS C F D (k a) from h) x.sF)
  | exc n d => exact fun F' H' cls dv x q => h σ F' H' cls dv (e.step x) x.sF q
  | stuck => exact h
theorem PostS.bind {k : Env → SO} {u : St → Hp → Prop} (h : PostS C F D (s.bind k)) (hk : ∀ Γ σ' F' H', EnvOk C Γ σ' F' H' → PostS C F' D (k Γ) → u σ' H') : PostS C F { D with nx := u } s := by
  cases s with
  | nx Γ => exact fun σ' F' H' e x => hk Γ σ' F' H' e (PostS.step (show PostS C F D (k Γ) from h) x)
  | rt d => exact h
  | rtL ds => exact h
  | bk Γ => exact h
  | ct Γ => exact h
  | ex Γ n d => exact h
  | stuck => exact h
end
structure FS (X : Cx) (C : Cg) (st : Stmt) (t : TS) (m : Env → SO) : Prop where
  ps : PS X st t
  rd : ∀ Γ σ F H D, EnvOk C Γ σ F H → PostS C F D (m Γ) → t D σ H
structure FB2 (X : Cx) (C : Cg) (st : List Stmt) (t : TS) (m : Env → SO) : Prop where
  ps : PSs X st t
  rd : ∀ Γ σ F H D, EnvOk C Γ σ F H → PostS C F D (m Γ) → t D σ H
/-- what is known of the slots besides stays, whatever comes into slot i -/
def Keeps (C : Cg) (i : Nat) : Prop := ∀ (σ : St) (o : Option V), C.P σ → C.P (σ.set i o)
section
variable {X : Cx} {C : Cg} {st : Stmt} {sts : List Stmt} {t u : TS} {te : TE} {e : Expr} {m m1 m2 : Env → SO} {me : Env → R D} {pos : Pos}
def mSeq (m1 m2 : Env → SO) : Env → SO := fun Γ => (m1 Γ).bind m2
def mSkip : Env → SO := fun Γ => .nx Γ
theorem fss_nil : FB2 X C [] tNext mSkip := ⟨pss_nil, fun Γ σ F H D e p => p σ F H e (.refl F)⟩
theorem fss_cons (h1 : FS X C st t m1) (h2 : FB2 X C sts u m2) : FB2 X C (st :: sts) (tSeq t u) (mSeq m1 m2) :=
  ⟨pss_cons h1.ps h2.ps, fun Γ σ F H D e p => h1.rd Γ σ F H _ e (PostS.bind p fun Γ' σ' F' H' e' p' => h2.rd Γ' σ' F' H' D e' p')⟩
theorem fss_one (h1 : FS X C st t m1) : FB2 X C [st] t m1 := ⟨pss_one h1.ps, h1.rd⟩
theorem fs_pass : FS X C (.Pass pos) tNext mSkip := ⟨ps_pass, fun Γ σ F H D e p => p σ F H e (.refl F)⟩
theorem fs_break : FS X C (.Break pos) tBreak (fun Γ => .bk Γ) := ⟨ps_break, fun Γ σ F H D e p => p σ F H e (.refl F)⟩
theorem fs_continue : FS X C (.Continue pos) tCont (fun Γ => .ct Γ) := ⟨ps_continue, fun Γ σ F H D e p => p σ F H e (.refl F)⟩
/-- an own list is settled ahead of a statement -/
def mSet1 (i : Nat) (k : Env → SO) : Env → SO := fun Γ => match Γ[i]? with
  | some (.own ds) => k (Γ.set i (.val (.lst ds)))
  | some (.ownd kvs) => k (Γ.set i (.val (.dct kvs)))
  | _ => k Γ
theorem settle_rd {t : TS} (i : Nat) (h : ∀ Γ σ F H D, EnvOk C Γ σ F H → PostS C F D (m Γ) → t D σ H) : ∀ Γ σ F H D, EnvOk C Γ σ F H → PostS C F D (mSet1 i m Γ) → t D σ H := fun Γ σ F H D e p => by
  unfold mSet1 at p
  split at p
  · rename_i ds hd
    obtain ⟨F', e', s⟩ := e.settle hd
    exact h _ σ F' H D e' (p.step s)
  · rename_i kvs hd
    obtain ⟨F', e', s⟩ := e.settleD hd
    exact h _ σ F' H D e' (p.step s)
  · exact h Γ σ F H D e p
theorem FS.settle (h : FS X C st t m) (i : Nat) : FS X C st t (mSet1 i m) := ⟨h.ps, settle_rd i h.rd⟩
theorem FB2.settle (h : FB2 X C sts t m) (i : Nat) : FB2 X C sts t (mSet1 i m) := ⟨h.ps, settle_rd i h.rd⟩

/-! ### stores to names -/
def mAsg (i : Nat) (me : Env → R D) : Env → SO := fun Γ => lift Γ (me Γ) fun d => .nx (Γ.set i (.val d))
def mAsgL (i : Nat) (me : Env → R (List D)) : Env → SO := fun Γ => lift Γ (me Γ) fun d => .nx (Γ.set i (.own d))
theorem asg_rd {i : Nat} (k : Keeps C i) (he : ∀ Γ σ F H Q, EnvOk C Γ σ F H → Post C (WE C.W σ) F H (me Γ) (kV C Q) → te σ H Q) : ∀ Γ σ F H D, EnvOk C Γ σ F H → PostS C F D (mAsg i me Γ) → tAsg te (gName i) D σ H := fun Γ σ F H D e p =>
  he Γ σ F H _ e (PostS.lift p e fun d F' H' x p' v r => p' _ F' H' ((e.step x).setV (k σ _ e.pre) r) (.refl F'))
theorem asgL_rd {i : Nat} {me : Env → R (List D)} (k : Keeps C i) (he : ∀ Γ σ F H Q, EnvOk C Γ σ F H → Post C (WE C.W σ) F H (me Γ) (kL C H Q) → te σ H Q) : ∀ Γ σ F H D, EnvOk C Γ σ F H → PostS C F D (mAsgL i me Γ) → tAsg te (gName i) D σ H := fun Γ σ F H D e p =>
  he Γ σ F H _ e (PostS.lift p e fun ds F' H' x p' q xs n hq nF r => p' _ F' H' (e.setOwn x (k σ _ e.pre) n hq nF r) (.refl F'))
theorem fs_set {i : Nat} {x : Str} {pos' : Pos} (k : Keeps C i) (hN : X.N.Nodup) (hi : X.N[i]? = some x) (hx : Loc X.env.scope x) (he : FE X C e te me) (hs : swapsWith e (some (.Name x pos')) pos.line X.env = pure false := by rfl) (hf : X.fn x = true ∨ X.env.scope.names.lookup x = some .local := by first | exact .inl rfl | exact .inr rfl | assumption) :
    FS X C (.Assign [.Name x pos'] e pos) (tAsg te (gName i)) (mAsg i me) := ⟨ps_set hN hi hx he.pe hs hf, asg_rd k he.rd⟩
theorem fs_setL {i : Nat} {x : Str} {pos' : Pos} {me : Env → R (List D)} (k : Keeps C i) (hN : X.N.Nodup) (hi : X.N[i]? = some x) (hx : Loc X.env.scope x) (he : FL X C e te me) (hs : swapsWith e (some (.Name x pos')) pos.line X.env = pure false := by rfl) (hf : X.fn x = true ∨ X.env.scope.names.lookup x = some .local := by first | exact .inl rfl | exact .inr rfl | assumption) :
    FS X C (.Assign [.Name x pos'] e pos) (tAsg te (gName i)) (mAsgL i me) := ⟨ps_set hN hi hx he.pe hs hf, asgL_rd k he.rd⟩

/-! ### expressions, returns, ifs -/
def mDrop (me : Env → R D) : Env → SO := fun Γ => lift Γ (me Γ) fun _ => .nx Γ
theorem fs_expr (he : FE X C e te me) (hs : swapsWith e none pos.line X.env = pure false := by rfl) : FS X C (.Expr e pos) (tDrop te) (mDrop me) :=
  ⟨ps_expr he.pe hs, fun Γ σ F H D en p => he.rd Γ σ F H _ en (PostS.lift p en fun d F' H' x p' v r => p' σ F' H' (en.step x) (.refl F'))⟩
def mRet (me : Env → R D) : Env → SO := fun Γ => lift Γ (me Γ) fun d => .rt d
def mRetL (me : Env → R (List D)) : Env → SO := fun Γ => lift Γ (me Γ) fun d => .rtL d
theorem fs_ret (he : FE X C e te me) : FS X C (.Return (some e) pos) (tRet te) (mRet me) :=
  ⟨ps_ret he.pe, fun Γ σ F H D en p => he.rd Γ σ F H _ en (PostS.lift p en fun d F' H' x p' v r => p' v F' H' (en.ext.trans x) r)⟩
theorem fs_retL {me : Env → R (List D)} (he : FL X C e te me) : FS X C (.Return (some e) pos) (tRet te) (mRetL me) :=
  ⟨ps_ret he.pe, fun Γ σ F H D en p => he.rd Γ σ F H _ en (PostS.lift p en fun d F' H' x p' q xs n hq nF r => p' q xs F' H' (en.ext.trans x) (en.ext.sH.free n) nF hq r)⟩
/-- an own list is handed back -/
def mRetOwn (i : Nat) : Env → SO := fun Γ => match Γ[i]? with
  | some (.own ds) => .rtL ds
  | _ => .stuck
theorem fs_retOwn {i : Nat} {x : Str} {pos' : Pos} (he : PE X (.Name x pos') (tVar i)) : FS X C (.Return (some (.Name x pos')) pos) (tRet (tVar i)) (mRetOwn i) :=
  ⟨ps_ret he, fun Γ σ F H D en p => by
    unfold mRetOwn at p
    split at p
    · rename_i ds hd
      obtain ⟨o, h1, q, h2, xs, h3, h4, h5, r⟩ := en.slot i _ hd
      subst h2
      exact ⟨_, h1, p q xs F H en.ext h5 h4 h3 r⟩
    · exact p.elim⟩
def mRetN : Env → SO := fun _ => .rt .non
theorem fs_retN : FS X C (.Return none pos) tRetN mRetN := ⟨ps_retN, fun Γ σ F H D en p => p .non F H en.ext .non⟩
def mIfS (c : Env → R Bool) (a b : Env → SO) : Env → SO := fun Γ => lift Γ (c Γ) fun k => if k then a Γ else b Γ
theorem fs_if {c : Expr} {a b : List Stmt} {tc : TT} {mc : Env → R Bool} (hc : FT X C c tc mc) (ha : FB2 X C a t m1) (hb : FB2 X C b u m2) : FS X C (.If c a b pos) (tIfS tc t u) (mIfS mc m1 m2) :=
  ⟨ps_if hc.pt ha.ps hb.ps, fun Γ σ F H D en p => hc.rd Γ σ F H _ en (PostS.lift p en fun k F' H' x p' => by
    cases k with
    | true => exact iteT (ha.rd Γ σ F' H' D (en.step x) p')
    | false => exact iteF (hb.rd Γ σ F' H' D (en.step x) p'))⟩

/-! ### targets -/
structure FG (X : Cx) (C : Cg) (e : Expr) (t : TG) (m : Env → D → Option Env) : Prop where
  pg : PG X e t
  rd : ∀ Γ σ F H d v Γ' (Q : St → Hp → Prop), EnvOk C Γ σ F H → Rep C.K C.mg F d v → m Γ d = some Γ' → (∀ σ', EnvOk C Γ' σ' F H → Q σ' H) → t v σ H Q
structure FGs (X : Cx) (C : Cg) (es : List Expr) (t : TGs) (m : Env → List D → Option Env) : Prop where
  pg : PGs X es t
  rd : ∀ Γ σ F H ds vs Γ' (Q : St → Hp → Prop), EnvOk C Γ σ F H → Reps C.K C.mg F ds vs → m Γ ds = some Γ' → (∀ σ', EnvOk C Γ' σ' F H → Q σ' H) → t vs σ H Q
def gSet (i : Nat) : Env → D → Option Env := fun Γ d => some (Γ.set i (.val d))
theorem fg_name {i : Nat} {x : Str} (k : Keeps C i) (hN : X.N.Nodup) (hi : X.N[i]? = some x) (hx : Loc X.env.scope x) (hf : X.fn x = true ∨ X.env.scope.names.lookup x = some .local := by first | exact .inl rfl | exact .inr rfl | assumption) : FG X C (.Name x pos) (gName i) (gSet i) :=
  ⟨pg_name hN hi hx hf, fun Γ σ F H d v Γ' Q en r h q => by
    cases h
    exact q _ (en.setV (k σ _ en.pre) r)⟩
def gsNil : Env → List D → Option Env := fun Γ ds => match ds with
  | [] => some Γ
  | _ => none
def gsCons (m : Env → D → Option Env) (ms : Env → List D → Option Env) : Env → List D → Option Env := fun Γ ds => match ds with
  | d :: ds => (m Γ d).bind fun Γ1 => ms Γ1 ds
  | [] => none
theorem fgs_nil : FGs X C [] gNil gsNil := ⟨pgs_nil, fun Γ σ F H ds vs Γ' Q en r h q => by
  cases r with
  | nil => cases h; exact ⟨rfl, q σ en⟩
  | cons _ _ => cases h⟩
theorem fgs_cons {e : Expr} {es : List Expr} {tg : TG} {tgs : TGs} {mg : Env → D → Option Env} {ms : Env → List D → Option Env} (h1 : FG X C e tg mg) (h2 : FGs X C es tgs ms)
    (hs : (assignEach (e :: es) X.env).map (·.2) = assign e X.env :: (assignEach es X.env).map (·.2) := by rfl) : FGs X C (e :: es) (gCons tg tgs) (gsCons mg ms) :=
  ⟨pgs_cons h1.pg h2.pg hs, fun Γ σ F H ds vs Γ' Q en r h q => by
    cases r with
    | nil => cases h
    | cons r rs =>
      obtain ⟨Γ1, g1, g2⟩ := Option.bind_eq_some_iff.mp (show (mg Γ _).bind (fun Γ1 => ms Γ1 _) = some Γ' from h)
      exact ⟨_, _, rfl, h1.rd Γ σ F H _ _ Γ1 _ en r g1 fun σ1 en1 => h2.rd Γ1 σ1 F H _ _ Γ' Q en1 rs g2 q⟩⟩
def gTupM (n : Nat) (ms : Env → List D → Option Env) : Env → D → Option Env := fun Γ d => match d with
  | .tup ds => if ds.length = n then ms Γ ds else none
  | _ => none
theorem fg_tup {es : List Expr} {k n : Nat} {tgs : TGs} {ms : Env → List D → Option Env} (hK : X.K = C.K) (hc : X.calm = true) (h : FGs X C es tgs ms)
    (hn : (assignEach es X.env).length = n := by rfl) (hst : (assignEach es X.env).findIdx? (·.1) = none := by rfl) : FG X C (.Tuple es k pos) (gTup X.K n tgs) (gTupM n ms) :=
  ⟨pg_tup hc h.pg hn hst, fun Γ σ F H d v Γ' Q en r h' q => by
    unfold gTupM at h'
    split at h'
    · rename_i ds
      split at h'
      · rename_i hl
        cases r with
        | tup hq rs => exact ⟨_, _, rfl, hK ▸ sqT_same en.sub hq, rs.length.trans hl, h.rd Γ σ F H _ _ Γ' Q en rs h' q⟩
      · cases h'
    · cases h'⟩
/-- target = e -/
def mAsgG (g : Env → D → Option Env) (me : Env → R D) : Env → SO := fun Γ => lift Γ (me Γ) fun d => match g Γ d with
  | some Γ' => .nx Γ'
  | none => .stuck
theorem fs_asg {tg : Expr} {g : TG} {mg : Env → D → Option Env} (he : FE X C e te me) (hg : FG X C tg g mg) (hs : swapsWithSole [tg] e pos.line X.env = pure false := by rfl) (hw : swappedStores [tg] e X.env = pure none := by rfl)
    (h1 : (assignEach [tg] X.env).map (·.2) = [assign tg X.env] := by rfl) : FS X C (.Assign [tg] e pos) (tAsg te g) (mAsgG mg me) :=
  ⟨ps_asg he.pe hg.pg hs hw h1, fun Γ σ F H D en p => he.rd Γ σ F H _ en (PostS.lift p en fun d F' H' x p' v r => by
    cases hgm : mg Γ d with
    | none => rw [hgm] at p'; exact p'.elim
    | some Γ' => rw [hgm] at p'; exact hg.rd Γ σ F' H' d v Γ' _ (en.step x) r hgm fun σ' en' => p' σ' F' H' en' (.refl F'))⟩

/-! ### what is walked -/
structure ItOk (C : Cg) (J : It) (ds : List D) (F1 : Hp) : Prop where
  stop : ∀ F H, Same F1 F → Same F H → J.stop ds.length H
  go : ∀ F H i, i < ds.length → Same F1 F → Same F H → J.go i H
  yld : ∀ F H i d x H', ds[i]? = some d → Same F1 F → Same F H → J.yld i H x H' → ∃ F', Ext F H F' H' ∧ Rep C.K C.mg F' d x
structure FI (X : Cx) (C : Cg) (tg iter : Expr) (t : TI) (m : Env → R (List D)) : Prop where
  pi : PI X tg iter t
  rd : ∀ Γ σ F H (Q : It → Hp → Prop), EnvOk C Γ σ F H → Post C (WE C.W σ) F H (m Γ) (fun ds F' H' => ∀ J, ItOk C J ds F' → Q J H') → t σ H Q
/-- the loop -/
def forL (g : Env → D → Option Env) (body : Env → SO) : List D → Env → SO
  | [], Γ => .nx Γ
  | d :: ds, Γ => match g Γ d with
    | none => .stuck
    | some Γ1 => match body Γ1 with
      | .nx Γ' => forL g body ds Γ'
      | .ct Γ' => forL g body ds Γ'
      | .bk Γ' => .nx Γ'
      | s => s
def mFor (mi : Env → R (List D)) (g : Env → D → Option Env) (body : Env → SO) : Env → SO := fun Γ => lift Γ (mi Γ) fun ds => forL g body ds Γ
theorem fs_for {tg iter : Expr} {body : List Stmt} {ti : TI} {g : TG} {tb : TS} {mi : Env → R (List D)} {mg : Env → D → Option Env} {mb : Env → SO} (hp : PassesOwn (model X.prog X.w) X.A X.env X.xe) (hc : X.calm = true) (hi : FI X C tg iter ti mi) (hg : FG X C tg g mg) (hb : FB2 X C body tb mb)
    (hs : ∀ x, foldedSetIterable iter X.env x = pure x := by intro _; rfl) : FS X C (.For tg iter body [] pos) (tFor ti g tb) (mFor mi mg mb) := by
  refine ⟨ps_for hp hc hi.pi hg.pg hb.ps hs, fun Γ σ F H D en p => hi.rd Γ σ F H _ en (PostS.lift p en fun ds F1 H1 x p1 J ok => ?_)⟩
  refine ⟨fun i m σ' H' => m = ds.length - i ∧ i ≤ ds.length ∧ ∃ Γ' F', EnvOk C Γ' σ' F' H' ∧ Same F1 F' ∧ PostS C F' D (forL mg mb (ds.drop i) Γ'), ⟨ds.length, by simp, Nat.zero_le _, Γ, F1, en.step x, .refl F1, p1⟩, ?_⟩
  rintro i m σ' H' ⟨rfl, hi', Γ', F', en', s', p'⟩
  by_cases hlt : i < ds.length
  · refine .inr ⟨ok.go F' H' i hlt s' en'.sub, fun σ2 H2 => (ds.length - (i + 1)) = ds.length - (i + 1) ∧ i + 1 ≤ ds.length ∧ ∃ Γ2 F2, EnvOk C Γ2 σ2 F2 H2 ∧ Same F1 F2 ∧ PostS C F2 D (forL mg mb (ds.drop (i + 1)) Γ2), fun σ2 H2 h2 => ⟨ds.length - (i + 1), by omega, h2⟩, fun v H2 y => ?_⟩
    rw [List.drop_eq_getElem_cons hlt] at p'
    obtain ⟨F2, x2, r2⟩ := ok.yld F' H' i ds[i] v H2 (List.getElem?_eq_getElem hlt) s' en'.sub y
    have p2 := PostS.step p' x2.sF
    unfold forL at p2
    cases hgm : mg Γ' ds[i] with
    | none => rw [hgm] at p2; exact p2.elim
    | some Γ1 =>
      rw [hgm] at p2
      refine hg.rd Γ' σ' F2 H2 _ v Γ1 _ (en'.step x2) r2 hgm fun σ3 en3 => hb.rd Γ1 σ3 F2 H2 _ en3 ?_
      have s2 : Same F1 F2 := s'.trans x2.sF
      simp only at p2
      revert p2
      cases mb Γ1 with
      | nx Γ2 => exact fun p2 σ4 F4 H4 e4 y4 => ⟨rfl, hlt, Γ2, F4, e4, s2.trans y4, p2.step y4⟩
      | ct Γ2 => exact fun p2 σ4 F4 H4 e4 y4 => ⟨rfl, hlt, Γ2, F4, e4, s2.trans y4, p2.step y4⟩
      | bk Γ2 => exact fun p2 => p2
      | rt d => exact fun p2 => p2
      | rtL d => exact fun p2 => p2
      | ex Γ2 n d => exact fun p2 => p2
      | stuck => exact fun p2 => p2
  · have e : i = ds.length := by omega
    subst e
    rw [List.drop_length] at p'
    exact .inl ⟨ok.stop F' H' s' en'.sub, p' σ' F' H' en' (.refl F')⟩

/-! ### while -/
def whileN (c : Env → R Bool) (body : Env → SO) : Nat → Env → SO
  | 0, _ => .stuck
  | n + 1, Γ => lift Γ (c Γ) fun k => if k then (match body Γ with
      | .nx Γ' => whileN c body n Γ'
      | .ct Γ' => whileN c body n Γ'
      | .bk Γ' => .nx Γ'
      | s => s) else .nx Γ
/-- more turns than any loop here takes -/
def FUEL : Nat := 1000000
def mWhile (c : Env → R Bool) (body : Env → SO) : Env → SO := whileN c body FUEL
theorem fs_while {c : Expr} {body : List Stmt} {tc : TT} {tb : TS} {mc : Env → R Bool} {mb : Env → SO} (hp : PassesOwn (model X.prog X.w) X.A X.env X.xe) (hc : FT X C c tc mc) (hb : FB2 X C body tb mb) : FS X C (.While c body [] pos) (tWhile tc tb) (mWhile mc mb) := by
  refine ⟨ps_while hp hc.pt hb.ps, fun Γ σ F H D en p => ?_⟩
  refine ⟨fun n σ' H' => ∃ Γ' F', EnvOk C Γ' σ' F' H' ∧ PostS C F' D (whileN mc mb n Γ'), ⟨FUEL, Γ, F, en, p⟩, ?_⟩
  rintro n σ' H' ⟨Γ', F', en', p'⟩
  cases n with
  | zero => exact p'.elim
  | succ n =>
    refine hc.rd Γ' σ' F' H' _ en' (PostS.lift p' en' fun k F2 H2 x2 p2 => ?_)
    cases k with
    | false => exact iteF (p2 σ' F2 H2 (en'.step x2) (.refl F2))
    | true =>
      refine iteT ⟨fun σ3 H3 => ∃ Γ3 F3, EnvOk C Γ3 σ3 F3 H3 ∧ PostS C F3 D (whileN mc mb n Γ3), fun σ3 H3 h3 => ⟨n, Nat.lt_succ_self n, h3⟩, hb.rd Γ' σ' F2 H2 _ (en'.step x2) ?_⟩
      simp only [if_true] at p2
      revert p2
      cases mb Γ' with
      | nx Γ2 => exact fun p2 σ4 F4 H4 e4 y4 => ⟨Γ2, F4, e4, p2.step y4⟩
      | ct Γ2 => exact fun p2 σ4 F4 H4 e4 y4 => ⟨Γ2, F4, e4, p2.step y4⟩
      | bk Γ2 => exact fun p2 => p2
      | rt d => exact fun p2 => p2
      | rtL d => exact fun p2 => p2
      | ex Γ2 n d => exact fun p2 => p2
      | stuck => exact fun p2 => p2
end
end FL

set_option Elab.async false
set_option linter.all false
set_option maxRecDepth 100000
set_option maxHeartbeats 2000000
/-! FL, part 4: defs, calls, own lists changed, raise, try. -/
namespace FL
open PySem PySem.Spec PyProof.Rows L2
set_option autoImplicit false
/-! ### what a def promises -/
def cg0 (K : PySem.W.Frag) (mg : Str → Option Value) (E : XK) (F H : Hp) : Cg := ⟨K, mg, fun cls d _ H' => E cls d H', fun _ => True, F, H⟩
def spV (K : PySem.W.Frag) (mg : Str → Option Value) (np : Nat) (g : List D → R D) : Sp := fun vs H Q E => vs.length = np ∧ ∃ F ds, Same F H ∧ Reps K mg F ds vs ∧ Post (cg0 K mg E F H) E F H (g ds) (kV (cg0 K mg E F H) Q)
/-- .. it hands back a new list -/
def spL (K : PySem.W.Frag) (mg : Str → Option Value) (np : Nat) (g : List D → R (List D)) : Sp := fun vs H Q E => vs.length = np ∧ ∃ F ds, Same F H ∧ Reps K mg F ds vs ∧ Post (cg0 K mg E F H) E F H (g ds) (kL (cg0 K mg E F H) H Q)
def retD : SO → R D
  | .nx _ => .ok .non
  | .rt d => .ok d
  | .rtL ds => .ok (.lst ds)
  | .ex _ n d => .exc n d
  | _ => .stuck
def retLs : SO → R (List D)
  | .rtL ds => .ok ds
  | .ex _ n d => .exc n d
  | _ => .stuck
def startG (n : Nat) (ds : List D) : Env := ds.map Slot.val ++ List.replicate (n - ds.length) Slot.no
def mFn (n : Nat) (m : Env → SO) : List D → R D := fun ds => retD (m (startG n ds))
def mFnL (n : Nat) (m : Env → SO) : List D → R (List D) := fun ds => retLs (m (startG n ds))
section
variable {P : Program} {w : World} {K : PySem.W.Frag} {mg : Str → Option Value} {base : Heap} {x qual : Str} {params : Arguments} {body : List Stmt} {scope : Scope} {dvs : List V} {kws : List (Str × V)} {f : Addr} {fd : FuncData} {N ps : List Str} {k : Nat} {m : Env → SO}
theorem env_start {E : XK} {F H : Hp} {ds : List D} {vs : List V} (s : Same F H) (r : Reps K mg F ds vs) (hl : vs.length ≤ N.length) : EnvOk (cg0 K mg E F H) (startG N.length ds) (L2.start N vs) F H := by
  have hl2 := r.length
  refine ⟨Ext.refl s, trivial, ?_, fun i t h => ?_, fun i j t u p h1 h2 o1 => ?_⟩
  · unfold startG L2.start
    simp [hl2]
  · unfold startG at h
    unfold L2.start
    by_cases hi : i < ds.length
    · rw [List.getElem?_append_left (by simpa using hi), List.getElem?_map, List.getElem?_eq_getElem hi] at h
      cases h
      obtain ⟨v, h1, h2⟩ := r.get (List.getElem?_eq_getElem hi)
      refine ⟨some v, ?_, v, rfl, h2⟩
      rw [List.getElem?_append_left (by simp; omega), List.getElem?_map, h1]
      rfl
    · rw [List.getElem?_append_right (by simp; omega), List.getElem?_replicate] at h
      split at h
      · cases h
        rename_i hlt
        refine ⟨none, ?_, trivial⟩
        rw [List.getElem?_append_right (by simp; omega), List.getElem?_replicate, if_pos]
        simp at hlt ⊢
        omega
      · cases h
  · unfold startG at h1
    by_cases hi : i < ds.length
    · rw [List.getElem?_append_left (by simpa using hi), List.getElem?_map, List.getElem?_eq_getElem hi] at h1
      cases h1
      cases o1
    · rw [List.getElem?_append_right (by simp; omega), List.getElem?_replicate] at h1
      split at h1
      · cases h1; cases o1
      · cases h1
theorem fn_val (F : FunD K x qual params body scope dvs kws f fd) (S : FnScope N ps scope)
    (h : ∀ (cdv : Value) (A : Around) (outer : List PySem.Env) (s : Shared) (H F0 : Hp) (E : XK), Room k (A.deeper (envOfC qual scope s.heap.objs.size f cdv)) →
      ∃ t, FB2 (cxOf (L2N.CX P w) P w K mg base N qual scope f cdv A outer s H E) (cg0 K mg E F0 H) body t m) : FnOk P w K mg base (L2N.CX P w) (k + 1) f fd ps (spV K mg ps.length (mFn N.length m)) := by
  refine F.ok S (fun vs H Q E h => h.1) (fun cdv A outer s H vs Q E hr hsp => ?_)
  obtain ⟨hl, F0, ds, sF, r, p⟩ := hsp
  obtain ⟨t, hb⟩ := h cdv A outer s H F0 E hr
  have hN : ps.length ≤ N.length := by
    have e := S.pre
    have := congrArg List.length e
    rw [List.length_take] at this
    omega
  refine ⟨t, hb.ps, hb.rd _ _ F0 H _ (env_start sF r (by omega)) ?_⟩
  unfold mFn at p
  revert p
  cases m (startG N.length ds) with
  | nx Γ => exact fun p σ' F' H' e y => p F' H' e.ext _ .non
  | rt d => exact fun p v F' H' e q => p F' H' e v q
  | rtL d => exact fun p q xs F' H' e n nF hq r => p _ H' (e.settle n nF hq) _ (.lst upd_same (r.mono (same_upd nF)))
  | bk Γ => exact fun p => p.elim
  | ct Γ => exact fun p => p.elim
  | ex Γ n d => exact fun p σ' F' H' cls dv e y q => p F' H' cls dv e.ext q
  | stuck => exact fun p => p.elim
theorem fn_lst (F : FunD K x qual params body scope dvs kws f fd) (S : FnScope N ps scope)
    (h : ∀ (cdv : Value) (A : Around) (outer : List PySem.Env) (s : Shared) (H F0 : Hp) (E : XK), Room k (A.deeper (envOfC qual scope s.heap.objs.size f cdv)) →
      ∃ t, FB2 (cxOf (L2N.CX P w) P w K mg base N qual scope f cdv A outer s H E) (cg0 K mg E F0 H) body t m) : FnOk P w K mg base (L2N.CX P w) (k + 1) f fd ps (spL K mg ps.length (mFnL N.length m)) := by
  refine F.ok S (fun vs H Q E h => h.1) (fun cdv A outer s H vs Q E hr hsp => ?_)
  obtain ⟨hl, F0, ds, sF, r, p⟩ := hsp
  obtain ⟨t, hb⟩ := h cdv A outer s H F0 E hr
  have hN : ps.length ≤ N.length := by
    have e := S.pre
    have := congrArg List.length e
    rw [List.length_take] at this
    omega
  refine ⟨t, hb.ps, hb.rd _ _ F0 H _ (env_start sF r (by omega)) ?_⟩
  unfold mFnL at p
  revert p
  cases m (startG N.length ds) with
  | nx Γ => exact fun p => p.elim
  | rt d => exact fun p => p.elim
  | rtL d => exact fun p q xs F' H' e n nF hq r => p F' H' e q xs n hq nF r
  | bk Γ => exact fun p => p.elim
  | ct Γ => exact fun p => p.elim
  | ex Γ n d => exact fun p σ' F' H' cls dv e y q => p F' H' cls dv e.ext q
  | stuck => exact fun p => p.elim
theorem funD_at (F : FunD K x qual params body scope dvs kws f fd) : ∃ oc od osl, K.lookup f = some ⟨oc, od, .func fd, osl⟩ := by
  obtain ⟨oc, od, dV, kV, doc, pm, an, cdv, ct, osl, e, lk, _⟩ := F.ex
  exact ⟨oc, od, osl, lk⟩
/-- a def by its name: what a caller needs -/
structure FnB (P : Program) (w : World) (K : PySem.W.Frag) (mg : Str → Option Value) (base : Heap) (x : Str) (k : Nat) (ps : List Str) (sp : Sp) : Prop where
  ex : ∃ f fd, mg x = some (.ref f) ∧ PySem.W.keepIn K (.ref f) = true ∧ (∀ (s : Shared) (us : List Value), us.length = ps.length → BindsTo s fd ⟨us, []⟩ (ps.zip us)) ∧ (∃ oc od osl, K.lookup f = some ⟨oc, od, .func fd, osl⟩) ∧ FnOk P w K mg base (L2N.CX P w) k f fd ps sp
/-- .. with its last parameters by default -/
structure FnBD (P : Program) (w : World) (K : PySem.W.Frag) (mg : Str → Option Value) (base : Heap) (x : Str) (k : Nat) (ps : List Str) (dds : List D) (sp : Sp) : Prop where
  ex : ∃ f fd dvs ds, mg x = some (.ref f) ∧ PySem.W.keepIn K (.ref f) = true ∧ Binds K fd ps ds ∧ Vals dvs ds ∧ (∀ F, Reps K mg F dds dvs) ∧ FnOk P w K mg base (L2N.CX P w) k f fd ps sp
theorem FnB.d {sp : Sp} (h : FnB P w K mg base x k ps sp) : FnBD P w K mg base x k ps [] sp := by
  obtain ⟨f, fd, h1, h2, h3, _, h4⟩ := h.ex
  exact ⟨f, fd, [], [], h1, h2, fun s us _ hl => by rw [List.append_nil] at hl ⊢; exact h3 s us hl, .nil, fun _ => .nil, h4⟩
end

/-! ### calls -/
section
variable {X : Cx} {CX : CXT} {k : Nat} {f : Addr} {fd : FuncData} {ps : List Str} {sp : Sp} {E : St → XK} {x : Str} {p pos : Pos} {e : Expr} {es : List Expr} {t : TA} {ds : List Value} {dvs : List V}
theorem run_fnSD {pins : List (Addr × Obj)} {σ : St} {H : Hp} {s : Shared} {Q : VK} {us : List Value} {vs : List V} (F : FnOk X.prog X.w X.K X.mg X.base CX k f fd ps sp) (hr : Room k X.A) (hb : Binds X.K fd ps ds) (hd : Vals dvs ds) (hx : PassesAt CX X σ (E σ))
    (I : Inv X pins σ H s) (r : Vals vs us) (h : sp (vs ++ dvs) H Q (E σ)) : wpAny (model X.prog X.w) X.A (call (.ref f) us) (EP X pins σ Q) X.xe s := by
  have r2 : Vals (vs ++ dvs) (us ++ ds) := r.append hd
  have hl : (us ++ ds).length = ps.length := by rw [← r2.length]; exact F.len _ _ _ _ h
  refine wpAny_call (codeAny_mono (F.run X.A X.stack s H ⟨us, []⟩ (us ++ ds) (vs ++ dvs) Q (E σ) hr I.env0 (hb s us I.kIn hl) r2 h) fun r s' hq => ?_)
  cases r with
  | error e => exact hx pins H s e s' I hq
  | ok fl =>
    cases fl with
    | ret u => exact I.after hq
    | next => exact False.elim hq
    | brk => exact False.elim hq
    | cont => exact False.elim hq
def tCallSD (sp : Sp) (dvs : List V) (E : St → XK) (t : TA) : TE := fun σ H Q => t σ H fun vs H1 => sp (vs ++ dvs) H1 Q (E σ)
theorem pe_callSD (F : FnOk X.prog X.w X.K X.mg X.base CX k f fd ps sp) (hr : Room k X.A) (hg : Gl X x) (hm : X.mg x = some (.ref f)) (hk : PySem.W.keepIn X.K (.ref f) = true) (hb : Binds X.K fd ps ds) (hd : Vals dvs ds) (hx : ∀ σ, PassesAt CX X σ (E σ))
    (ha : PA X (e :: es) t) (hdb : (x == ("__debug__" : Str)) = false := by decide) (he : starEach (e :: es) X.env = (false, eval e X.env) :: starEach es X.env := by rfl) (hpl : (backTo pos (starEach es X.env)).any (·.1) = false := by rfl) :
    PE X (.Call (.Name x p) (e :: es) [] pos) (tCallSD sp dvs E t) := by
  refine ⟨fun pins s σ H Q I h => ?_⟩
  refine wpAny_Call_Name_kw (ld_glob I hg hm ?_ hdb)
  refine PySem.W.callWith_K (h₀ := X.base) I.ok.mod.kin hk (thn (ha.run pos pins s σ H _ I h) fun us s1 ⟨vs, H1, I1, r, q⟩ => ⟨I1.kIn, ?_⟩) he hpl
  exact run_fnSD F hr hb hd (hx σ) I1 r q
theorem pe_callSD0 (F : FnOk X.prog X.w X.K X.mg X.base CX k f fd ps sp) (hr : Room k X.A) (hg : Gl X x) (hm : X.mg x = some (.ref f)) (hk : PySem.W.keepIn X.K (.ref f) = true) (hb : Binds X.K fd ps ds) (hd : Vals dvs ds) (hx : ∀ σ, PassesAt CX X σ (E σ))
    (hdb : (x == ("__debug__" : Str)) = false := by decide) : PE X (.Call (.Name x p) [] [] pos) (tCallSD sp dvs E tNil) := by
  refine ⟨fun pins s σ H Q I h => ?_⟩
  refine wpAny_Call_Name_kw (ld_glob I hg hm ?_ hdb)
  exact PySem.W.callWith_K0 I.kIn hk (run_fnSD (us := []) F hr hb hd (hx σ) I .nil h)
end
section
variable {X : Cx} {C : Cg} {k : Nat} {ps : List Str} {x : Str} {p pos : Pos} {e : Expr} {es : List Expr} {t : TA} {m : Env → R (List D)} {dds : List D}
def mCall {α : Type} (g : List D → R α) (m : Env → R (List D)) : Env → R α := fun Γ => do let ds ← m Γ; g ds
/-- the reading of a call: the callee's promise by its plain function -/
def tCal (sp : Sp) (W : WX) (dds : List D) (K : PySem.W.Frag) (mg : Str → Option Value) (t : TA) : TE := fun σ H Q => ∀ dvs, (∀ F, Reps K mg F dds dvs) → t σ H fun vs H1 => sp (vs ++ dvs) H1 Q (WE W σ)
theorem cal_pe {sp : Sp} (B : FnBD X.prog X.w X.K X.mg X.base x k ps dds sp) (hr : Room k X.A) (hg : Gl X x) (tk : L2N.Takes X C.W) (ha : PA X (e :: es) t) (hdb : (x == ("__debug__" : Str)) = false := by decide) (he : starEach (e :: es) X.env = (false, eval e X.env) :: starEach es X.env := by rfl) (hpl : (backTo pos (starEach es X.env)).any (·.1) = false := by rfl) :
    PE X (.Call (.Name x p) (e :: es) [] pos) (tCal sp C.W dds X.K X.mg t) := by
  obtain ⟨f, fd, dvs, ds, h1, h2, h3, h4, h5, h6⟩ := B.ex
  have q := pe_callSD (p := p) (pos := pos) h6 hr hg h1 h2 h3 h4 (fun σ => L2N.passAt tk σ) ha hdb he hpl
  exact ⟨fun pins s σ H Q I h => q.run pins s σ H Q I (h dvs h5)⟩
theorem cal_pe0 {sp : Sp} (B : FnBD X.prog X.w X.K X.mg X.base x k ps dds sp) (hr : Room k X.A) (hg : Gl X x) (tk : L2N.Takes X C.W) (hdb : (x == ("__debug__" : Str)) = false := by decide) :
    PE X (.Call (.Name x p) [] [] pos) (tCal sp C.W dds X.K X.mg tNil) := by
  obtain ⟨f, fd, dvs, ds, h1, h2, h3, h4, h5, h6⟩ := B.ex
  have q := pe_callSD0 (p := p) (pos := pos) h6 hr hg h1 h2 h3 h4 (fun σ => L2N.passAt tk σ) hdb
  exact ⟨fun pins s σ H Q I h => q.run pins s σ H Q I (h dvs h5)⟩
theorem post_cg {α : Type} {C C' : Cg} {E : XK} {F H : Hp} {r : R α} {k : α → Hp → Hp → Prop} (e1 : C'.K = C.K) (e2 : C'.mg = C.mg) (h : Post C E F H r k) : Post C' E F H r k := by
  cases r with
  | ok a => exact h
  | exc n d => exact fun F' H' cls dv x q => h F' H' cls dv x (by rw [← e1, ← e2]; exact q)
  | stuck => exact h
theorem cal_rdV {g : List D → R D} {n : Nat} {es : List Expr} (hK : X.K = C.K) (hmg : X.mg = C.mg) (ha : FA X C es t m) (hn : es.length + dds.length = n) (hl : ∀ Γ ds, m Γ = .ok ds → ds.length = es.length) : ∀ Γ σ F H Q, EnvOk C Γ σ F H → Post C (WE C.W σ) F H (mCall (fun ds => g (ds ++ dds)) m Γ) (kV C Q) → tCal (spV X.K X.mg n g) C.W dds X.K X.mg t σ H Q := fun Γ σ F H Q en p dvs hd => by
  unfold mCall at p
  have hl' := hl Γ
  refine ha.rd Γ σ F H _ en ?_
  revert p hl'
  cases m Γ with
  | ok ds =>
    intro p hl' F' H' x' vs rs
    have r2 : Reps C.K C.mg F' (ds ++ dds) (vs ++ dvs) := rs.append (by rw [← hK, ← hmg]; exact hd F')
    refine ⟨?_, F', ds ++ dds, x'.sub, by rw [hK, hmg]; exact r2, ?_⟩
    · rw [r2.length, List.length_append, hl' ds rfl]; exact hn
    · have p2 : Post C (WE C.W σ) F' H' (g (ds ++ dds)) (kV C Q) := Post.step (show Post C (WE C.W σ) F H (g (ds ++ dds)) (kV C Q) from p) x'
      refine post_cg hK hmg (p2.imp fun d F2 H2 _ q v r => q v (by rw [← hK, ← hmg]; exact r))
  | exc n d => exact fun p _ => p
  | stuck => exact fun p _ => p
theorem cal_rdL {g : List D → R (List D)} {n : Nat} {es : List Expr} (hK : X.K = C.K) (hmg : X.mg = C.mg) (ha : FA X C es t m) (hn : es.length + dds.length = n) (hl : ∀ Γ ds, m Γ = .ok ds → ds.length = es.length) : ∀ Γ σ F H Q, EnvOk C Γ σ F H → Post C (WE C.W σ) F H (mCall (fun ds => g (ds ++ dds)) m Γ) (kL C H Q) → tCal (spL X.K X.mg n g) C.W dds X.K X.mg t σ H Q := fun Γ σ F H Q en p dvs hd => by
  unfold mCall at p
  have hl' := hl Γ
  refine ha.rd Γ σ F H _ en ?_
  revert p hl'
  cases m Γ with
  | ok ds =>
    intro p hl' F' H' x' vs rs
    have r2 : Reps C.K C.mg F' (ds ++ dds) (vs ++ dvs) := rs.append (by rw [← hK, ← hmg]; exact hd F')
    refine ⟨?_, F', ds ++ dds, x'.sub, by rw [hK, hmg]; exact r2, ?_⟩
    · rw [r2.length, List.length_append, hl' ds rfl]; exact hn
    · have p2 : Post C (WE C.W σ) F' H' (g (ds ++ dds)) (kL C H Q) := Post.step (show Post C (WE C.W σ) F H (g (ds ++ dds)) (kL C H Q) from p) x'
      refine post_cg hK hmg (p2.imp fun d F2 H2 y q pp xs n hp nF r => q pp xs (x'.sH.free n) hp nF (by rw [← hK, ← hmg]; exact r))
  | exc n d => exact fun p _ => p
  | stuck => exact fun p _ => p
theorem mNil_len : ∀ Γ ds, mNil Γ = .ok ds → ds.length = ([] : List Expr).length := fun Γ ds h => by cases h; rfl
theorem mCons_len {ma : Env → R D} {mr : Env → R (List D)} {e : Expr} {es : List Expr} (h : ∀ Γ ds, mr Γ = .ok ds → ds.length = es.length) : ∀ Γ ds, mCons ma mr Γ = .ok ds → ds.length = (e :: es).length := fun Γ ds q => by
  unfold mCons at q
  revert q
  cases ma Γ with
  | ok x =>
    show (mr Γ >>= fun xs => pure (x :: xs)) = .ok ds → _
    have h' := h Γ
    revert h'
    cases mr Γ with
    | ok xs => intro h' q; cases q; simp [h' xs rfl]
    | exc n d => intro _ q; cases q
    | stuck => intro _ q; cases q
  | exc n d => intro q; cases q
  | stuck => intro q; cases q
/-- f(e, ..) -/
theorem fe_call {g : List D → R D} {n : Nat} (B : FnBD X.prog X.w X.K X.mg X.base x k ps dds (spV X.K X.mg n g)) (hK : X.K = C.K) (hmg : X.mg = C.mg) (hr : Room k X.A) (hg : Gl X x) (tk : L2N.Takes X C.W) (ha : FA X C (e :: es) t m) (hn : (e :: es).length + dds.length = n) (hl : ∀ Γ ds, m Γ = .ok ds → ds.length = (e :: es).length) (hdb : (x == ("__debug__" : Str)) = false := by decide) (he : starEach (e :: es) X.env = (false, eval e X.env) :: starEach es X.env := by rfl) (hpl : (backTo pos (starEach es X.env)).any (·.1) = false := by rfl) :
    FE X C (.Call (.Name x p) (e :: es) [] pos) (tCal (spV X.K X.mg n g) C.W dds X.K X.mg t) (mCall (fun ds => g (ds ++ dds)) m) := ⟨cal_pe B hr hg tk ha.pa hdb he hpl, cal_rdV hK hmg ha hn hl⟩
theorem fl_call {g : List D → R (List D)} {n : Nat} (B : FnBD X.prog X.w X.K X.mg X.base x k ps dds (spL X.K X.mg n g)) (hK : X.K = C.K) (hmg : X.mg = C.mg) (hr : Room k X.A) (hg : Gl X x) (tk : L2N.Takes X C.W) (ha : FA X C (e :: es) t m) (hn : (e :: es).length + dds.length = n) (hl : ∀ Γ ds, m Γ = .ok ds → ds.length = (e :: es).length) (hdb : (x == ("__debug__" : Str)) = false := by decide) (he : starEach (e :: es) X.env = (false, eval e X.env) :: starEach es X.env := by rfl) (hpl : (backTo pos (starEach es X.env)).any (·.1) = false := by rfl) :
    FL X C (.Call (.Name x p) (e :: es) [] pos) (tCal (spL X.K X.mg n g) C.W dds X.K X.mg t) (mCall (fun ds => g (ds ++ dds)) m) := ⟨cal_pe B hr hg tk ha.pa hdb he hpl, cal_rdL hK hmg ha hn hl⟩
theorem fe_call0 {g : List D → R D} {n : Nat} (B : FnBD X.prog X.w X.K X.mg X.base x k ps dds (spV X.K X.mg n g)) (hK : X.K = C.K) (hmg : X.mg = C.mg) (hr : Room k X.A) (hg : Gl X x) (tk : L2N.Takes X C.W) (hn : dds.length = n) (hdb : (x == ("__debug__" : Str)) = false := by decide) :
    FE X C (.Call (.Name x p) [] [] pos) (tCal (spV X.K X.mg n g) C.W dds X.K X.mg tNil) (mCall (fun ds => g (ds ++ dds)) mNil) := ⟨cal_pe0 B hr hg tk hdb, cal_rdV hK hmg fa_nil (by simpa using hn) mNil_len⟩
end
end FL

set_option Elab.async false
set_option linter.all false
set_option maxRecDepth 100000
set_option maxHeartbeats 2000000
/-! FL, part 5: operations by values. -/
namespace FL
open PySem PySem.Spec PyProof.Rows L2
set_option autoImplicit false
/-! ### == -/
mutual
def D.eqv : D → D → Bool
  | .non, .non => true
  | .bl a, .bl b => a == b
  | .bl a, .int j => decide ((if a then 1 else 0) = j)
  | .int i, .bl b => decide (i = if b then 1 else 0)
  | .int i, .int j => decide (i = j)
  | .str x, .str y => decide (x = y)
  | .lst xs, .lst ys => D.eqvs xs ys
  | .tup xs, .tup ys => D.eqvs xs ys
  | _, _ => false
def D.eqvs : List D → List D → Bool
  | [], [] => true
  | x :: xs, y :: ys => D.eqv x y && D.eqvs xs ys
  | _, _ => false
end
mutual
def D.py : D → PyData
  | .non => .none
  | .bl b => .bool b
  | .int i => .int i
  | .str s => .str (mk s)
  | .lst ds => .list (D.pys ds)
  | .tup ds => .tuple (D.pys ds)
  | _ => .none
def D.pys : List D → List PyData
  | [] => []
  | d :: ds => D.py d :: D.pys ds
end
mutual
def D.pl : D → Bool
  | .lst ds => D.pls ds
  | .tup ds => D.pls ds
  | .dct _ => false
  | .scr _ => false
  | .glo _ => false
  | .ty _ => false
  | .obj _ _ => false
  | _ => true
def D.pls : List D → Bool
  | [] => true
  | d :: ds => D.pl d && D.pls ds
end
mutual
def D.dep : D → Nat
  | .lst ds => D.deps ds + 1
  | .tup ds => D.deps ds + 1
  | _ => 0
def D.deps : List D → Nat
  | [] => 0
  | d :: ds => max (D.dep d) (D.deps ds)
end
theorem mk_beq (a b : List Nat) : (mk a == mk b) = decide (a = b) := by
  by_cases h : a = b
  · subst h; simp
  · rw [decide_eq_false h]
    exact beq_eq_false_iff_ne.mpr fun e => h (mk_inj e)
theorem int_beq (a b : Int) : (a == b) = decide (a = b) := rfl
mutual
theorem eqv_py : ∀ a b : D, a.pl = true → b.pl = true → PyData.eqv a.py b.py = D.eqv a b
  | .non, b, _, hb => by cases b <;> first | rfl | cases hb
  | .bl x, b, _, hb => by cases b <;> first | rfl | cases hb
  | .int x, b, _, hb => by cases b <;> first | rfl | cases hb
  | .str x, b, _, hb => by
    cases b <;> first | rfl | cases hb | skip
    exact mk_beq _ _
  | .lst xs, b, ha, hb => by
    cases b <;> first | rfl | cases hb | skip
    exact eqvs_py xs _ ha hb
  | .tup xs, b, ha, hb => by
    cases b <;> first | rfl | cases hb | skip
    exact eqvs_py xs _ ha hb
  | .dct _, _, ha, _ => by cases ha
  | .scr _, _, ha, _ => by cases ha
  | .glo _, _, ha, _ => by cases ha
  | .ty _, _, ha, _ => by cases ha
  | .obj _ _, _, ha, _ => by cases ha
theorem eqvs_py : ∀ a b : List D, D.pls a = true → D.pls b = true → PyData.eqvAll (D.pys a) (D.pys b) = D.eqvs a b
  | [], [], _, _ => rfl
  | [], _ :: _, _, _ => rfl
  | _ :: _, [], _, _ => rfl
  | x :: xs, y :: ys, ha, hb => by
    have ha' := Bool.and_eq_true_iff.mp (show (D.pl x && D.pls xs) = true from ha)
    have hb' := Bool.and_eq_true_iff.mp (show (D.pl y && D.pls ys) = true from hb)
    show (PyData.eqv x.py y.py && PyData.eqvAll (D.pys xs) (D.pys ys)) = (D.eqv x y && D.eqvs xs ys)
    rw [eqv_py x y ha'.1 hb'.1, eqvs_py xs ys ha'.2 hb'.2]
end
mutual
theorem depth_py : ∀ a : D, PyData.depth a.py = a.dep
  | .non => rfl
  | .bl _ => rfl
  | .int _ => rfl
  | .str _ => rfl
  | .lst xs => congrArg (· + 1) (depths_py xs)
  | .tup xs => congrArg (· + 1) (depths_py xs)
  | .dct _ => rfl
  | .scr _ => rfl
  | .glo _ => rfl
  | .ty _ => rfl
  | .obj _ _ => rfl
theorem depths_py : ∀ a : List D, PyData.depthAll (D.pys a) = D.deps a
  | [] => rfl
  | x :: xs => by
    show max (PyData.depth x.py) (PyData.depthAll (D.pys xs)) = max x.dep (D.deps xs)
    rw [depth_py x, depths_py xs]
end
section
variable {K : PySem.W.Frag} {mg : Str → Option Value} {F H : Hp}
theorem strOk_mk {s : List Nat} (h : okS s) : PyData.strOk (mk s) = true := by
  unfold PyData.strOk mk
  rw [Array.all_eq_true]
  intro i hi
  have : s.toArray[i] ∈ s := by
    have := Array.getElem_mem hi
    simpa using this
  exact decide_eq_true (h _ this)
mutual
theorem Rep.dp (s : Same F H) : ∀ {d : D} {v : V}, Rep K mg F d v → d.pl = true → Dp K H v d.py ∧ PyData.canLay0 d.py = true
  | _, _, .non, _ => ⟨.non, rfl⟩
  | _, _, .bl b, _ => ⟨.bl b, rfl⟩
  | _, _, .int i, _ => ⟨.int i, rfl⟩
  | _, _, .str _ ok, _ => ⟨.str _, strOk_mk ok⟩
  | _, _, .lst h r, p => ⟨.lst (.inl (.inl (s _ _ h))) (Reps.dp s r p).1, (Reps.dp s r p).2⟩
  | _, _, .tup h r, p => ⟨.tup (sqT_same s h) (Reps.dp s r p).1, (Reps.dp s r p).2⟩
  | _, _, .dct _ _ _ _, p => by cases p
  | _, _, .scr _, p => by cases p
  | _, _, .glo _, p => by cases p
  | _, _, .ty _, p => by cases p
  | _, _, .obj _ _ _ _, p => by cases p
theorem Reps.dp (s : Same F H) : ∀ {ds : List D} {vs : List V}, Reps K mg F ds vs → D.pls ds = true → DpAll K H vs (D.pys ds) ∧ PyData.canLayAll0 (D.pys ds) = true
  | _, _, .nil, _ => ⟨.nil, rfl⟩
  | _, _, .cons h r, p => by
    have p' := Bool.and_eq_true_iff.mp (show (D.pl _ && D.pls _) = true from p)
    have a := Rep.dp s h p'.1
    have b := Reps.dp s r p'.2
    exact ⟨.cons a.1 b.1, Bool.and_eq_true_iff.mpr ⟨a.2, b.2⟩⟩
end
end
theorem RepR.dp {C : Cg} {F H : Hp} {d : D} {v : V} (s : Same F H) (h : RepR C F H d v) (p : d.pl = true) (q : d.dep ≤ 64) : Dp C.K H v d.py ∧ SeqAt.shaped d.py = true := by
  have fin : Dp C.K H v d.py ∧ PyData.canLay0 d.py = true → Dp C.K H v d.py ∧ SeqAt.shaped d.py = true := fun ⟨a, b⟩ => ⟨a, by
    unfold SeqAt.shaped
    rw [b, depth_py, decide_eq_true q]; rfl⟩
  rcases h with h | ⟨p', ds, xs, rfl, rfl, h3, h4, r⟩
  · exact fin (h.dp s p)
  · have z := Reps.dp s r p
    exact fin ⟨.lst (.inl (.inl h3)) z.1, z.2⟩
def D.cmpOk (a b : D) : Bool := a.pl && b.pl && decide (a.dep ≤ 64) && decide (b.dep ≤ 64)
def D.eq (a b : D) : R D := if D.cmpOk a b = true then .ok (.bl (D.eqv a b)) else .stuck
def D.ne (a b : D) : R D := if D.cmpOk a b = true then .ok (.bl (!D.eqv a b)) else .stuck
theorem cmpOk_of {a b : D} (h : D.cmpOk a b = true) : a.pl = true ∧ b.pl = true ∧ a.dep ≤ 64 ∧ b.dep ≤ 64 := by
  unfold D.cmpOk at h
  simp only [Bool.and_eq_true, decide_eq_true_eq] at h
  exact ⟨h.1.1.1, h.1.1.2, h.1.2, h.2⟩
theorem os_eq {C : Cg} : OpS C (rEqD C.K) D.eq := fun d1 d2 v1 v2 F H E Q s r1 r2 p => by
  unfold D.eq at p
  split at p
  · rename_i h
    obtain ⟨a1, a2, a3, a4⟩ := cmpOk_of h
    have e1 := r1.dp s a1 a3
    have e2 := r2.dp s a2 a4
    refine ⟨_, _, e1.1, e2.1, e1.2, e2.2, ?_⟩
    rw [eqv_py _ _ a1 a2]
    exact p F H (Ext.refl s) _ (.bl _)
  · exact p.elim
theorem os_ne {C : Cg} : OpS C (rNeD C.K) D.ne := fun d1 d2 v1 v2 F H E Q s r1 r2 p => by
  unfold D.ne at p
  split at p
  · rename_i h
    obtain ⟨a1, a2, a3, a4⟩ := cmpOk_of h
    have e1 := r1.dp s a1 a3
    have e2 := r2.dp s a2 a4
    refine ⟨_, _, e1.1, e2.1, e1.2, e2.2, ?_⟩
    rw [eqv_py _ _ a1 a2]
    exact p F H (Ext.refl s) _ (.bl _)
  · exact p.elim

/-! ### ints -/
def iop (g : Int → Int → R D) : D → D → R D
  | .int i, .int j => g i j
  | _, _ => .stuck
theorem os_int {C : Cg} {c : Int → Int → Prop} {h : Int → Int → D} {h' : Int → Int → V} {g : Int → Int → R D} (hg : ∀ i j, (c i j ∧ g i j = .ok (h i j)) ∨ g i j = .stuck) (hr : ∀ i j F, Rep C.K C.mg F (h i j) (h' i j)) : OpS C (rI c h') (iop g) := fun d1 d2 v1 v2 F H E Q s r1 r2 p => by
  unfold iop at p
  split at p
  · rename_i i j
    have e1 := r1.int
    have e2 := r2.int
    subst e1 e2
    rcases hg i j with ⟨hc, e⟩ | e
    · rw [e] at p
      exact ⟨i, j, rfl, rfl, hc, p F H (Ext.refl s) _ (hr i j F)⟩
    · rw [e] at p; exact p.elim
  · exact p.elim
theorem os_int0 {C : Cg} {h : Int → Int → D} {h' : Int → Int → V} (hr : ∀ i j F, Rep C.K C.mg F (h i j) (h' i j)) : OpS C (rI0 h') (iop fun i j => .ok (h i j)) := fun d1 d2 v1 v2 F H E Q s r1 r2 p => by
  unfold iop at p
  split at p
  · rename_i i j
    have e1 := r1.int
    have e2 := r2.int
    subst e1 e2
    exact ⟨i, j, rfl, rfl, p F H (Ext.refl s) _ (hr i j F)⟩
  · exact p.elim
def D.sub : D → D → R D := iop fun i j => .ok (.int (i - j))
def D.lt : D → D → R D
  | .int i, .int j => .ok (.bl (decide (i < j)))
  | .str a, .str b => .ok (.bl (decide (a < b)))
  | _, _ => .stuck
def D.le : D → D → R D
  | .int i, .int j => .ok (.bl (decide (i ≤ j)))
  | .str a, .str b => .ok (.bl (!decide (b < a)))
  | _, _ => .stuck
def D.gt : D → D → R D
  | .int i, .int j => .ok (.bl (decide (j < i)))
  | .str a, .str b => .ok (.bl (decide (b < a)))
  | _, _ => .stuck
def D.ge : D → D → R D
  | .int i, .int j => .ok (.bl (decide (j ≤ i)))
  | .str a, .str b => .ok (.bl (!decide (a < b)))
  | _, _ => .stuck
def D.fdiv : D → D → R D := iop fun i j => if 0 < j ∧ j.natAbs.log2 < 9000 then .ok (.int (i / j)) else .stuck
def D.mod : D → D → R D := iop fun i j => if 0 < j then .ok (.int (i % j)) else .stuck
def D.pow : D → D → R D := iop fun i j => if 0 ≤ j ∧ j ≤ 1000000 ∧ i.natAbs < 18446744073709551616 then .ok (.int (i ^ j.toNat)) else .stuck
section
variable {C : Cg}
theorem os_sub : OpS C (rI0 fun i j => .int (i - j)) D.sub := os_int0 fun _ _ _ => .int _
def rLtA : R2 := fun x y H Q => rI0 (fun i j => .bl (decide (i < j))) x y H Q ∨ ∃ i j, x = .str i ∧ y = .str j ∧ Q (.bl (decide (i.cps.toList < j.cps.toList))) H
theorem op_ltA {X : Cx} : OpR X (compareOp .Lt) rLtA := op_lt.or op_lt_str
theorem os_lt : OpS C rLtA D.lt := fun d1 d2 v1 v2 F H E Q s r1 r2 p => by
  unfold D.lt at p
  split at p
  · have e1 := r1.int
    have e2 := r2.int
    subst e1 e2
    exact .inl ⟨_, _, rfl, rfl, p F H (Ext.refl s) _ (.bl _)⟩
  · obtain ⟨e1, o1⟩ := r1.str
    obtain ⟨e2, o2⟩ := r2.str
    subst e1 e2
    refine .inr ⟨_, _, rfl, rfl, ?_⟩
    rw [mk_list, mk_list]
    exact p F H (Ext.refl s) _ (.bl _)
  · exact p.elim
def rLeA : R2 := fun x y H Q => rI0 (fun i j => .bl (decide (i ≤ j))) x y H Q ∨ ∃ i j, x = .str i ∧ y = .str j ∧ Q (.bl (!decide (j.cps.toList < i.cps.toList))) H
theorem op_leA {X : Cx} : OpR X (compareOp .LtE) rLeA := op_le.or op_le_str
theorem os_le : OpS C rLeA D.le := fun d1 d2 v1 v2 F H E Q s r1 r2 p => by
  unfold D.le at p
  split at p
  · have e1 := r1.int
    have e2 := r2.int
    subst e1 e2
    exact .inl ⟨_, _, rfl, rfl, p F H (Ext.refl s) _ (.bl _)⟩
  · obtain ⟨e1, o1⟩ := r1.str
    obtain ⟨e2, o2⟩ := r2.str
    subst e1 e2
    refine .inr ⟨_, _, rfl, rfl, ?_⟩
    rw [mk_list, mk_list]
    exact p F H (Ext.refl s) _ (.bl _)
  · exact p.elim
def rGtA : R2 := fun x y H Q => rI0 (fun i j => .bl (decide (j < i))) x y H Q ∨ ∃ i j, x = .str i ∧ y = .str j ∧ Q (.bl (decide (j.cps.toList < i.cps.toList))) H
theorem op_gtA {X : Cx} : OpR X (compareOp .Gt) rGtA := op_gt.or op_gt_str
theorem os_gt : OpS C rGtA D.gt := fun d1 d2 v1 v2 F H E Q s r1 r2 p => by
  unfold D.gt at p
  split at p
  · have e1 := r1.int
    have e2 := r2.int
    subst e1 e2
    exact .inl ⟨_, _, rfl, rfl, p F H (Ext.refl s) _ (.bl _)⟩
  · obtain ⟨e1, o1⟩ := r1.str
    obtain ⟨e2, o2⟩ := r2.str
    subst e1 e2
    refine .inr ⟨_, _, rfl, rfl, ?_⟩
    rw [mk_list, mk_list]
    exact p F H (Ext.refl s) _ (.bl _)
  · exact p.elim
def rGeA : R2 := fun x y H Q => rI0 (fun i j => .bl (decide (j ≤ i))) x y H Q ∨ ∃ i j, x = .str i ∧ y = .str j ∧ Q (.bl (!decide (i.cps.toList < j.cps.toList))) H
theorem op_geA {X : Cx} : OpR X (compareOp .GtE) rGeA := op_ge.or op_ge_str
theorem os_ge : OpS C rGeA D.ge := fun d1 d2 v1 v2 F H E Q s r1 r2 p => by
  unfold D.ge at p
  split at p
  · have e1 := r1.int
    have e2 := r2.int
    subst e1 e2
    exact .inl ⟨_, _, rfl, rfl, p F H (Ext.refl s) _ (.bl _)⟩
  · obtain ⟨e1, o1⟩ := r1.str
    obtain ⟨e2, o2⟩ := r2.str
    subst e1 e2
    refine .inr ⟨_, _, rfl, rfl, ?_⟩
    rw [mk_list, mk_list]
    exact p F H (Ext.refl s) _ (.bl _)
  · exact p.elim
theorem os_fdiv : OpS C (rI CDivW fun i j => .int (i / j)) D.fdiv := os_int (h := fun i j => .int (i / j)) (fun i j => by
  by_cases h : 0 < j ∧ j.natAbs.log2 < 9000
  · exact .inl ⟨h, if_pos h⟩
  · exact .inr (if_neg h)) fun _ _ _ => .int _
theorem os_mod : OpS C (rI (fun _ j => 0 < j) fun i j => .int (i % j)) D.mod := os_int (h := fun i j => .int (i % j)) (fun i j => by
  by_cases h : 0 < j
  · exact .inl ⟨h, if_pos h⟩
  · exact .inr (if_neg h)) fun _ _ _ => .int _
theorem os_pow : OpS C (rI CPow fun i j => .int (i ^ j.toNat)) D.pow := os_int (h := fun i j => .int (i ^ j.toNat)) (fun i j => by
  by_cases h : 0 ≤ j ∧ j ≤ 1000000 ∧ i.natAbs < 18446744073709551616
  · exact .inl ⟨h, if_pos h⟩
  · exact .inr (if_neg h)) fun _ _ _ => .int _
end

/-! ### + and * -/
def D.add : D → D → R D
  | .int i, .int j => .ok (.int (i + j))
  | .str a, .str b => if a.length + b.length ≤ 16777216 then .ok (.str (a ++ b)) else .stuck
  | .lst a, .lst b => if a.length + b.length ≤ 16777216 then .ok (.lst (a ++ b)) else .stuck
  | _, _ => .stuck
def rAddS : R2 := fun x y H Q => ∃ i j, x = .str i ∧ y = .str j ∧ i.length + j.length ≤ sizeLine ∧ Q (.str (i ++ j)) H
def rAddA : R2 := fun x y H Q => rI0 (fun i j => .int (i + j)) x y H Q ∨ rAddS x y H Q ∨ rCat x y H Q
theorem op_addA {X : Cx} : OpR X (binaryOp .Add) rAddA := op_add.or (op_add_str.or op_cat)
theorem os_add {C : Cg} : OpS C rAddA D.add := fun d1 d2 v1 v2 F H E Q s r1 r2 p => by
  unfold D.add at p
  split at p
  · rename_i i j
    have e1 := r1.int
    have e2 := r2.int
    subst e1 e2
    exact .inl ⟨i, j, rfl, rfl, p F H (Ext.refl s) _ (.int _)⟩
  · rename_i a b
    obtain ⟨e1, o1⟩ := r1.str
    obtain ⟨e2, o2⟩ := r2.str
    subst e1 e2
    split at p
    · rename_i hl
      refine .inr (.inl ⟨_, _, rfl, rfl, by rw [mk_len, mk_len, sizeLine_eq]; exact hl, ?_⟩)
      rw [mk_app]
      exact p F H (Ext.refl s) _ (.str _ (o1.app o2))
    · exact p.elim
  · rename_i a b
    obtain ⟨p1, xs, rfl, h1, q1⟩ := r1.lst s
    obtain ⟨p2, ys, rfl, h2, q2⟩ := r2.lst s
    split at p
    · rename_i hl
      refine .inr (.inr ⟨p1, p2, xs, ys, rfl, rfl, h1, h2, by rw [q1.length, q2.length, sizeLine_eq]; exact hl, fun z nz => ?_⟩)
      exact p _ _ (Ext.new s nz) _ (.lst upd_same ((q1.append q2).mono (same_upd (sub_none s nz))))
    · exact p.elim
  · exact p.elim
/-- + of two lists, the new one not settled -/
def lcat : D → D → R (List D)
  | .lst a, .lst b => if a.length + b.length ≤ 16777216 then .ok (a ++ b) else .stuck
  | _, _ => .stuck
def mOpL (g : D → D → R (List D)) (ma mb : Env → R D) : Env → R (List D) := fun Γ => do let x ← ma Γ; let y ← mb Γ; g x y
def OpL (C : Cg) (r : R2) (g : D → D → R (List D)) : Prop := ∀ (d1 d2 : D) (v1 v2 : V) (F H : Hp) (E : XK) (Q : VK), Same F H → RepR C F H d1 v1 → RepR C F H d2 v2 → Post C E F H (g d1 d2) (kL C H Q) → r v1 v2 H Q
theorem kL_step {C : Cg} {H H' : Hp} {Q : VK} {ds : List D} {F2 H2 : Hp} (x : Same H H') (h : kL C H Q ds F2 H2) : kL C H' Q ds F2 H2 := fun p xs n hp nF r => h p xs (x.free n) hp nF r
theorem opL_rd {X : Cx} {C : Cg} {a b : Expr} {ta tb : TE} {ma mb : Env → R D} {r : R2} {g : D → D → R (List D)} (hs : OpL C r g) (ha : FR X C a ta ma) (hb : FR X C b tb mb) : ∀ Γ σ F H Q, EnvOk C Γ σ F H → Post C (WE C.W σ) F H (mOpL g ma mb Γ) (kL C H Q) → tOp r ta tb σ H Q := fun Γ σ F H Q e p =>
  ha.rd Γ σ F H _ e (Post.bind p fun x F1 H1 x1 p1 v1 r1 => hb.rd Γ σ F1 H1 _ (e.step x1) (Post.bind p1 fun y F2 H2 x2 p2 v2 r2 => hs x y v1 v2 F2 H2 _ Q x2.sub (r1.ext x2) r2 (p2.imp fun ds F3 H3 x3 q => kL_step (x1.sH.trans x2.sH) q)))
theorem fl_op {X : Cx} {C : Cg} {a b : Expr} {ta tb : TE} {ma mb : Env → R D} {pos : Pos} {op : Operator} {r : R2} {g : D → D → R (List D)} (ho : OpR X (binaryOp op) r) (hs : OpL C r g) (ha : FR X C a ta ma) (hb : FR X C b tb mb) : FL X C (.BinOp a op b pos) (tOp r ta tb) (mOpL g ma mb) := ⟨pe_op ho ha.pe hb.pe, opL_rd hs ha hb⟩
theorem ol_cat {C : Cg} : OpL C rCat lcat := fun d1 d2 v1 v2 F H E Q s r1 r2 p => by
  unfold lcat at p
  split at p
  · obtain ⟨p1, xs, rfl, h1, q1⟩ := r1.lst s
    obtain ⟨p2, ys, rfl, h2, q2⟩ := r2.lst s
    split at p
    · rename_i hl
      exact ⟨p1, p2, xs, ys, rfl, rfl, h1, h2, by rw [q1.length, q2.length, sizeLine_eq]; exact hl, fun z nz => p _ _ (Ext.raw s nz) z _ nz upd_same (sub_none s nz) (q1.append q2)⟩
    · exact p.elim
  · exact p.elim
/-- text * int -/
def repS (a : List Nat) (n : Nat) : List Nat := (List.replicate n a).flatten
def D.mul : D → D → R D
  | .int i, .int j => if i.natAbs.log2 + j.natAbs.log2 < 100000000 then .ok (.int (i * j)) else .stuck
  | .str a, .int k => if -1000000 ≤ k ∧ k ≤ 1000000 ∧ a.length * k.toNat ≤ 16777216 then .ok (.str (repS a k.toNat)) else .stuck
  | .lst a, .int k => if -1000000 ≤ k ∧ k ≤ 1000000 ∧ a.length * k.toNat ≤ 16777216 then .ok (.lst (List.replicate k.toNat a).flatten) else .stuck
  | _, _ => .stuck
def rRepS : R2 := fun x y H Q => ∃ (a : List Nat) (k : Int), x = .str (mk a) ∧ y = .int k ∧ -1000000 ≤ k ∧ k ≤ 1000000 ∧ a.length * k.toNat ≤ 16777216 ∧ Q (.str (mk (repS a k.toNat))) H
theorem foldl_mk (a : List Nat) : ∀ (k : Nat) (acc : List Nat), (List.replicate k (mk a).cps).foldl (fun x y => x ++ y) acc.toArray = (acc ++ repS a k).toArray
  | 0, acc => by simp [repS]
  | k + 1, acc => by
    rw [List.replicate_succ, List.foldl_cons, show acc.toArray ++ (mk a).cps = (acc ++ a).toArray by simp [mk], foldl_mk a k]
    simp [repS, List.replicate_succ]
theorem repS_one (a : List Nat) : repS a 1 = a := by simp [repS]
theorem repS_nil (k : Nat) : repS [] k = [] := by simp [repS]
theorem repS_succ (a : List Nat) (k : Nat) : repS a (k + 1) = a ++ repS a k := by
  unfold repS
  rw [List.replicate_succ, List.flatten_cons]
theorem repS_len (a : List Nat) : ∀ k : Nat, (repS a k).length = a.length * k
  | 0 => by simp [repS]
  | k + 1 => by rw [repS_succ, List.length_append, repS_len a k, Nat.mul_succ, Nat.add_comm]
theorem repS_ok {a : List Nat} (h : okS a) (k : Nat) : okS (repS a k) := fun c hc => by
  obtain ⟨l, h1, h2⟩ := List.mem_flatten.mp hc
  rw [(List.mem_replicate.mp h1).2] at h2
  exact h c h2
theorem op_repS {X : Cx} : OpR X (binaryOp .Mult) rRepS := by
  intro pins s σ H x y v u Q I rx ry h
  obtain ⟨a, k, rfl, rfl, h1, h2, h3, q⟩ := h
  obtain ⟨t, rfl⟩ := rx
  obtain ⟨t', rfl⟩ := ry
  have hl : (mk a).length = a.length := mk_len a
  refine PySem.P.mul_str (by rw [decide_eq_false (by omega), decide_eq_false (by omega)]; rfl) (fun g1 g2 => ?_) (fun g1 g2 => ?_) ?_
  · have hk : 0 < k := by omega
    rw [hl]
    have hz : a.length ≤ 16777216 := by
      have : 1 ≤ k.toNat := by omega
      exact Nat.le_trans (Nat.le_mul_of_pos_right _ this) h3
    have : (2 ^ 63 - 1 : Int) / k ≥ (2 ^ 63 - 1) / 1000000 := by
      rw [ge_iff_le, Int.le_ediv_iff_mul_le hk]
      have h4 : ((2 : Int) ^ 63 - 1) / 1000000 = 9223372036854 := by decide
      rw [h4]
      have : 9223372036854 * k ≤ 9223372036854 * 1000000 := Int.mul_le_mul_of_nonneg_left h2 (by decide)
      have h5 : (9223372036854 : Int) * 1000000 ≤ 2 ^ 63 - 1 := by decide
      omega
    have h4 : ((2 : Int) ^ 63 - 1) / 1000000 = 9223372036854 := by decide
    omega
  · rw [hl]
    simp [Builtin.Str.tooLong, sizeLine_eq]
    omega
  · by_cases g1 : k < 1
    · rw [if_pos g1]
      refine ⟨by decide, .str _, H, I.tok _, ⟨_, rfl⟩, ?_⟩
      have e : repS a k.toNat = [] := by
        rw [show k.toNat = 0 by omega]; rfl
      rw [e] at q
      exact q
    · rw [if_neg g1]
      by_cases g2 : (k == 1 || (mk a).length == 0) = true
      · rw [if_pos g2]
        have e : repS a k.toNat = a := by
          rcases Bool.or_eq_true_iff.mp g2 with g | g
          · have : k = 1 := eq_of_beq g
            subst this; exact repS_one a
          · have : a.length = 0 := by rw [← hl]; exact eq_of_beq g
            have : a = [] := List.length_eq_zero_iff.mp this
            subst this; exact repS_nil _
        rw [e] at q
        exact ⟨.str _, H, I, ⟨_, rfl⟩, q⟩
      · rw [if_neg g2]
        have e := foldl_mk a k.toNat []
        have e2 : (⟨(List.replicate k.toNat (mk a).cps).foldl (fun x y => x ++ y) #[]⟩ : Str) = mk (repS a k.toNat) := by
          show Str.mk _ = Str.mk _
          exact congrArg Str.mk (by simpa using e)
        show Made.post (Made.str ⟨(List.replicate k.toNat (mk a).cps).foldl (fun x y => x ++ y) #[]⟩) _ _
        rw [e2]
        refine ⟨?_, .str _, H, I.tok _, ⟨_, rfl⟩, q⟩
        rw [mk_len, repS_len, sizeLine_eq]
        exact h3
/-- * of great numbers -/
def CMulX (i j : Int) : Prop := i.natAbs.log2 + j.natAbs.log2 < 100000000
theorem CMulX.ok {i j : Int} (h : CMulX i j) : IntMulOk i j := by
  have b : ∀ x : Int, Builtin.Int.intBits x ≤ x.natAbs.log2 + 1 := fun x => by
    unfold Builtin.Int.intBits
    split <;> omega
  have h1 := b i
  have h2 := b j
  have h3 : i.natAbs.log2 + j.natAbs.log2 < 100000000 := h
  have e : bitsLine = 134217728 := by decide
  unfold IntMulOk
  intro z
  rw [Bool.and_eq_true] at z
  have z2 := z.2
  unfold Builtin.Int.intTooBig at z2
  have z3 := of_decide_eq_true z2
  rw [e] at z3
  omega
theorem op_mulX {X : Cx} : OpR X (binaryOp .Mult) (rI CMulX fun i j => .int (i * j)) := opI fun _ _ _ _ _ _ _ hc q => mul_int q hc.ok
def rMulA : R2 := fun x y H Q => rI CMulX (fun i j => .int (i * j)) x y H Q ∨ rRepS x y H Q ∨ rRep x y H Q
theorem op_mulA {X : Cx} : OpR X (binaryOp .Mult) rMulA := op_mulX.or (op_repS.or op_rep)
theorem os_mul {C : Cg} : OpS C rMulA D.mul := fun d1 d2 v1 v2 F H E Q s r1 r2 p => by
  unfold D.mul at p
  split at p
  · rename_i i j
    have e1 := r1.int
    have e2 := r2.int
    subst e1 e2
    split at p
    · rename_i hc
      exact .inl ⟨i, j, rfl, rfl, hc, p F H (Ext.refl s) _ (.int _)⟩
    · exact p.elim
  · rename_i a k
    obtain ⟨e1, o1⟩ := r1.str
    have e2 := r2.int
    subst e1 e2
    split at p
    · rename_i hc
      exact .inr (.inl ⟨a, k, rfl, rfl, hc.1, hc.2.1, hc.2.2, p F H (Ext.refl s) _ (.str _ (repS_ok o1 _))⟩)
    · exact p.elim
  · rename_i a k
    obtain ⟨p1, xs, rfl, h1, q1⟩ := r1.lst s
    have e2 := r2.int
    subst e2
    split at p
    · rename_i hc
      refine .inr (.inr ⟨p1, k, xs, rfl, rfl, h1, by omega, by omega, by rw [q1.length, sizeLine_eq]; exact hc.2.2, fun z nz => ?_⟩)
      exact p _ _ (Ext.new s nz) _ (.lst upd_same ((q1.rep _).mono (same_upd (sub_none s nz))))
    · exact p.elim
  · exact p.elim
end FL

set_option Elab.async false
set_option linter.all false
set_option maxRecDepth 100000
set_option maxHeartbeats 2000000
/-! FL, part 6: subscripts, slices, len, in, isinstance, walks. -/
namespace FL
open PySem PySem.Spec PyProof.Rows L2
set_option autoImplicit false
/-! ### x[i] -/
def D.ix : D → D → R D
  | .str a, .int i => if a.length ≤ 16777216 then (match atI a i with
      | some c => .ok (.str [c])
      | none => .stuck) else .stuck
  | .lst a, .int i => (match atI a i with
      | some d => .ok d
      | none => .stuck)
  | .tup a, .int i => (match atI a i with
      | some d => .ok d
      | none => .stuck)
  | .scr a, .int i => (match atI a i with
      | some d => .ok (.int d)
      | none => .stuck)
  | _, _ => .stuck
theorem atI_iff {α : Type} {xs : List α} {i : Int} {v : α} : atI xs i = some v ↔ ∃ j, ixN xs.length i = some j ∧ xs[j]? = some v := by
  unfold atI
  rw [Option.bind_eq_some_iff]
theorem Reps.atI {K : PySem.W.Frag} {mg : Str → Option Value} {F : Hp} {ds : List D} {vs : List V} {i : Int} {d : D} (r : Reps K mg F ds vs) (h : atI ds i = some d) : ∃ v, L2.atI vs i = some v ∧ Rep K mg F d v := by
  obtain ⟨j, h1, h2⟩ := atI_iff.mp h
  obtain ⟨v, h3, h4⟩ := r.get h2
  exact ⟨v, atI_iff.mpr ⟨j, by rw [r.length]; exact h1, h3⟩, h4⟩
theorem okS_at {a : List Nat} {i : Int} {c : Nat} (o : okS a) (h : atI a i = some c) : okS [c] := fun x hx => by
  obtain ⟨j, _, h2⟩ := atI_iff.mp h
  rw [List.mem_singleton.mp hx]
  exact o c (List.mem_of_getElem? h2)
theorem os_ix {C : Cg} : OpS C (rIx C.K) D.ix := fun d1 d2 v1 v2 F H E Q s r1 r2 p => by
  unfold D.ix at p
  split at p
  · rename_i a i
    obtain ⟨e1, o1⟩ := r1.str
    have e2 := r2.int
    subst e1 e2
    split at p
    · rename_i hl
      split at p
      · rename_i c hc
        exact .inr (.inr ⟨_, i, c, rfl, rfl, by rw [mk_len, sizeLine_eq]; exact hl, by rw [mk_list]; exact hc, p F H (Ext.refl s) _ (.str [c] (okS_at o1 hc))⟩)
      · exact p.elim
    · exact p.elim
  · rename_i a i
    obtain ⟨p1, xs, rfl, h1, q1⟩ := r1.lst s
    have e2 := r2.int
    subst e2
    split at p
    · rename_i d hd
      obtain ⟨v, g1, g2⟩ := q1.atI hd
      exact .inl ⟨p1, xs, i, v, rfl, rfl, .inl (.inl h1), g1, p F H (Ext.refl s) _ g2⟩
    · exact p.elim
  · rename_i a i
    obtain ⟨p1, xs, rfl, h1, q1⟩ := r1.tup s
    have e2 := r2.int
    subst e2
    split at p
    · rename_i d hd
      obtain ⟨v, g1, g2⟩ := q1.atI hd
      exact .inr (.inl ⟨p1, xs, i, v, rfl, rfl, h1, g1, p F H (Ext.refl s) _ g2⟩)
    · exact p.elim
  · rename_i a i
    obtain ⟨p1, rfl, h1⟩ := r1.scr s
    have e2 := r2.int
    subst e2
    split at p
    · rename_i d hd
      obtain ⟨j, g1, g2⟩ := atI_iff.mp hd
      exact .inl ⟨p1, _, i, .int d, rfl, rfl, h1, atI_iff.mpr ⟨j, by simpa using g1, by rw [List.getElem?_map, g2]; rfl⟩, p F H (Ext.refl s) _ (.int d)⟩
    · exact p.elim
  · exact p.elim

/-! ### x[i:j] -/
/-- a written end of a slice -/
structure FO (X : Cx) (C : Cg) (e : Option Expr) (t : TO) (m : Env → R (Option Int)) : Prop where
  po : PO X e t
  rd : ∀ Γ σ F H (Q : Option Int → Hp → Prop), EnvOk C Γ σ F H → Post C (WE C.W σ) F H (m Γ) (fun i _ H' => Q i H') → t σ H Q
def mPn : Env → R (Option Int) := fun _ => pure none
def asI : D → R Int
  | .int i => .ok i
  | _ => .stuck
def mPs (m : Env → R D) : Env → R (Option Int) := fun Γ => do let x ← m Γ; let i ← asI x; pure (some i)
/-- the place that an end means -/
def cutIx (n d : Nat) (i : Option Int) : Nat := HT.sIx n d i
def cutL {α : Type} (xs : List α) (lo hi : Option Int) : List α := (xs.drop (HT.sIx xs.length 0 lo)).take (HT.sIx xs.length xs.length hi - HT.sIx xs.length 0 lo)
def D.sl (d : D) (lo hi : Option Int) : R D := match d with
  | .str a => if a.length ≤ 16777216 then .ok (.str (cutL a lo hi)) else .stuck
  | .lst a => .ok (.lst (cutL a lo hi))
  | .scr a => .ok (.lst ((cutL a lo hi).map .int))
  | _ => .stuck
def lsl (d : D) (lo hi : Option Int) : R (List D) := match d with
  | .lst a => .ok (cutL a lo hi)
  | .scr a => .ok ((cutL a lo hi).map .int)
  | _ => .stuck
theorem Reps.cut {K : PySem.W.Frag} {mg : Str → Option Value} {F : Hp} {ds : List D} {vs : List V} (lo hi : Option Int) (r : Reps K mg F ds vs) : Reps K mg F (cutL ds lo hi) (cutV vs lo hi) := by
  unfold cutL cutV
  rw [r.length]
  exact (r.drop _).take _
theorem okS_cut {a : List Nat} (o : okS a) (lo hi : Option Int) : okS (cutL a lo hi) := fun c hc => o c (List.drop_subset _ _ (List.take_subset _ _ hc))
theorem mk_cut (a : List Nat) (lo hi : Option Int) : cutS (mk a) lo hi = mk (cutL a lo hi) := by
  unfold cutS cutL
  rw [mk_list, mk_len]
  rfl
theorem map_cut (ns : List Int) (lo hi : Option Int) : cutV (ns.map V.int) lo hi = (cutL ns lo hi).map V.int := by
  unfold cutV cutL
  simp [List.map_take, List.map_drop]
def rSlA (K : PySem.W.Frag) : V → Option Int → Option Int → Hp → VK → Prop := fun x lo hi H Q => rSlL K x lo hi H Q ∨ rSlS x lo hi H Q
theorem sl_A {X : Cx} : SlR X (rSlA X.K) := sl_list.or sl_str
section
variable {X : Cx} {C : Cg} {a : Expr} {te : TE} {ma : Env → R D} {pos p2 : Pos} {lo hi : Option Expr} {tl th : TO} {ml mh : Env → R (Option Int)}
theorem fo_none : FO X C none tNoPart mPn := ⟨po_none, fun Γ σ F H Q e p => p F H (Ext.refl e.sub)⟩
theorem fo_some (h : FE X C a te ma) : FO X C (some a) (tPart te) (mPs ma) := ⟨po_some h.pe, fun Γ σ F H Q e p => h.rd Γ σ F H _ e (Post.bind p fun x F1 H1 x1 p1 v r => by
  cases r with
  | int i => exact ⟨i, rfl, p1 F1 H1 (Ext.refl x1.sub)⟩
  | _ => exact p1.elim)⟩
def mSl (ma : Env → R D) (ml mh : Env → R (Option Int)) : Env → R D := fun Γ => do let x ← ma Γ; let i ← ml Γ; let j ← mh Γ; D.sl x i j
def mSlL (ma : Env → R D) (ml mh : Env → R (Option Int)) : Env → R (List D) := fun Γ => do let x ← ma Γ; let i ← ml Γ; let j ← mh Γ; lsl x i j
theorem fe_slice (hK : X.K = C.K) (ha : FR X C a te ma) (hl : FO X C lo tl ml) (hh : FO X C hi th mh) : FE X C (.Subscript a (.Slice lo hi none p2) pos) (tSl (rSlA X.K) te tl th) (mSl ma ml mh) :=
  ⟨pe_slice sl_A ha.pe hl.po hh.po, fun Γ σ F H Q e p => ha.rd Γ σ F H _ e (Post.bind p fun x F1 H1 x1 p1 v1 r1 => hl.rd Γ σ F1 H1 _ (e.step x1) (Post.bind p1 fun i F2 H2 x2 p2 => hh.rd Γ σ F2 H2 _ ((e.step x1).step x2) (Post.bind p2 fun j F3 H3 x3 p3 => by
    have r3 := (r1.ext x2).ext x3
    have s := x3.sub
    unfold D.sl at p3
    split at p3
    · obtain ⟨e1, o1⟩ := r3.str
      subst e1
      split at p3
      · rename_i hz
        refine .inr ⟨_, rfl, by rw [mk_len, sizeLine_eq]; exact hz, ?_⟩
        rw [mk_cut]
        exact p3 F3 H3 (Ext.refl s) _ (.str _ (okS_cut o1 _ _))
      · exact p3.elim
    · obtain ⟨q, xs, rfl, h1, q1⟩ := r3.lst s
      exact .inl ⟨q, xs, rfl, .inl (.inl h1), fun z nz => p3 _ _ (Ext.new s nz) _ (.lst upd_same ((q1.cut i j).mono (same_upd (sub_none s nz))))⟩
    · obtain ⟨q, rfl, h1⟩ := r3.scr s
      refine .inl ⟨q, _, rfl, hK ▸ h1, fun z nz => p3 _ _ (Ext.new s nz) _ (.lst upd_same ?_)⟩
      rw [map_cut]
      exact reps_ints
    · exact p3.elim)))⟩
theorem fl_slice (hK : X.K = C.K) (ha : FR X C a te ma) (hl : FO X C lo tl ml) (hh : FO X C hi th mh) : FL X C (.Subscript a (.Slice lo hi none p2) pos) (tSl (rSlL X.K) te tl th) (mSlL ma ml mh) :=
  ⟨pe_slice sl_list ha.pe hl.po hh.po, fun Γ σ F H Q e p => ha.rd Γ σ F H _ e (Post.bind p fun x F1 H1 x1 p1 v1 r1 => hl.rd Γ σ F1 H1 _ (e.step x1) (Post.bind p1 fun i F2 H2 x2 p2 => hh.rd Γ σ F2 H2 _ ((e.step x1).step x2) (Post.bind p2 fun j F3 H3 x3 p3 => by
    have r3 := (r1.ext x2).ext x3
    have s := x3.sub
    have sH : Same H H3 := (x1.sH.trans x2.sH).trans x3.sH
    unfold lsl at p3
    split at p3
    · obtain ⟨q, xs, rfl, h1, q1⟩ := r3.lst s
      exact ⟨q, xs, rfl, .inl (.inl h1), fun z nz => p3 _ _ (Ext.raw s nz) z _ (sH.free nz) upd_same (sub_none s nz) (q1.cut i j)⟩
    · obtain ⟨q, rfl, h1⟩ := r3.scr s
      refine ⟨q, _, rfl, hK ▸ h1, fun z nz => p3 _ _ (Ext.raw s nz) z _ (sH.free nz) upd_same (sub_none s nz) ?_⟩
      rw [map_cut]
      exact reps_ints
    · exact p3.elim)))⟩
end

/-! ### is None; in -/
def D.isN : D → D → R D
  | .non, .non => .ok (.bl true)
  | _, .non => .ok (.bl false)
  | _, _ => .stuck
def D.notN : D → D → R D
  | .non, .non => .ok (.bl false)
  | _, .non => .ok (.bl true)
  | _, _ => .stuck
theorem repR_non {C : Cg} {F H : Hp} {d : D} {v : V} (h : RepR C F H d v) : v = .non ↔ d = .non := by
  constructor
  · intro e; subst e
    rcases h with h | ⟨p, ds, xs, _, h2, _⟩
    · cases h; rfl
    · cases h2
  · intro e; subst e; exact h.non
theorem os_isN {C : Cg} : OpS C (fun x y H Q => y = .non ∧ Q (.bl (decide (x = .non))) H) D.isN := fun d1 d2 v1 v2 F H E Q s r1 r2 p => by
  unfold D.isN at p
  split at p
  · have e1 := r1.non
    have e2 := r2.non
    subst e1 e2
    exact ⟨rfl, p F H (Ext.refl s) _ (.bl _)⟩
  · rename_i h
    have e2 := r2.non
    subst e2
    refine ⟨rfl, ?_⟩
    rw [decide_eq_false (fun z => h ((repR_non r1).mp z))]
    exact p F H (Ext.refl s) _ (.bl _)
  · exact p.elim
theorem os_notN {C : Cg} : OpS C (fun x y H Q => y = .non ∧ Q (.bl (!decide (x = .non))) H) D.notN := fun d1 d2 v1 v2 F H E Q s r1 r2 p => by
  unfold D.notN at p
  split at p
  · have e1 := r1.non
    have e2 := r2.non
    subst e1 e2
    exact ⟨rfl, p F H (Ext.refl s) _ (.bl _)⟩
  · rename_i h
    have e2 := r2.non
    subst e2
    refine ⟨rfl, ?_⟩
    rw [decide_eq_false (fun z => h ((repR_non r1).mp z))]
    exact p F H (Ext.refl s) _ (.bl _)
  · exact p.elim
/-- flat things, as they are compared by in -/
def D.flat : D → Bool
  | .non => true
  | .bl _ => true
  | .int _ => true
  | .str _ => true
  | _ => false
def isSub (a b : List Nat) : Bool := !(Builtin.Str.occurrences (mk b) (mk a) 0 (mk b).length 1).isEmpty
/-- x in y: one sign or a text in a text; a flat thing in a list, a tuple of such -/
def D.isIn : D → D → R Bool
  | .str a, .str b => (match a with
      | [c] => .ok (decide (c ∈ b))
      | a => .ok (isSub a b))
  | d, .lst ds => if d.flat && ds.all D.flat then .ok (ds.any fun y => D.eqv y d) else .stuck
  | d, .tup ds => if d.flat && ds.all D.flat then .ok (ds.any fun y => D.eqv y d) else .stuck
  | _, _ => .stuck
def D.in_ (a b : D) : R D := do let x ← D.isIn a b; pure (.bl x)
def D.notIn (a b : D) : R D := do let x ← D.isIn a b; pure (.bl !x)
section
variable {C : Cg} {F H : Hp}
theorem flat_rep {d : D} {v : V} (h : RepR C F H d v) (f : d.flat = true) : flatV v = true := by
  rcases h with h | ⟨p, ds, xs, h1, _⟩
  · cases h <;> first | rfl | cases f
  · subst h1; cases f
theorem flat_eqv {d e : D} {v u : V} (h : RepR C F H d v) (h' : RepR C F H e u) (f : d.flat = true) (f' : e.flat = true) : eqV v u = D.eqv d e := by
  rcases h with h | ⟨p, ds, xs, h1, _⟩
  · rcases h' with h' | ⟨p, ds, xs, h1, _⟩
    · cases h <;> first | cases f | skip
      all_goals cases h' <;> first | cases f' | skip
      all_goals first
        | rfl
        | (simp only [eqV, D.eqv]; first | rfl | exact mk_beq _ _)
        | (rename_i a b; cases a <;> cases b <;> rfl)
        | (rename_i a b; cases a <;> rfl)
        | (rename_i a b; cases b <;> rfl)
        | skip
    · subst h1; cases f'
  · subst h1; cases f
theorem flats {ds : List D} {vs : List V} {d : D} {v : V} (h' : RepR C F H d v) (f' : d.flat = true) (r : Reps C.K C.mg F ds vs) : ds.all D.flat = true → vs.all flatV = true ∧ inV v vs = ds.any fun y => D.eqv y d := by
  induction ds generalizing vs with
  | nil => intro _; cases r; exact ⟨rfl, rfl⟩
  | cons e es ih =>
    intro f
    cases r with
    | cons r1 r2 =>
      rw [List.all_cons, Bool.and_eq_true] at f
      obtain ⟨a1, a2⟩ := ih r2 f.2
      refine ⟨by rw [List.all_cons, flat_rep (F := F) (H := H) (.inl r1) f.1, a1]; rfl, ?_⟩
      unfold inV at a2 ⊢
      rw [List.any_cons, List.any_cons, a2, flat_eqv (F := F) (H := H) (.inl r1) h' f.1 f']
end
def rInT : R2 := fun x y H Q => ∃ i j, x = .str i ∧ y = .str j ∧ Q (.bl (!(Builtin.Str.occurrences j i 0 j.length 1).isEmpty)) H
def rNotInT : R2 := fun x y H Q => ∃ i j, x = .str i ∧ y = .str j ∧ Q (.bl (!(!(Builtin.Str.occurrences j i 0 j.length 1).isEmpty))) H
def rInSg : R2 := fun x y H Q => ∃ (c : Nat) (z : Str), x = .str ⟨#[c]⟩ ∧ y = .str z ∧ Q (.bl (decide (c ∈ z.cps.toList))) H
def rNotInSg : R2 := fun x y H Q => ∃ (c : Nat) (z : Str), x = .str ⟨#[c]⟩ ∧ y = .str z ∧ Q (.bl (!decide (c ∈ z.cps.toList))) H
def rInA (K : PySem.W.Frag) : R2 := fun x y H Q => rInSg x y H Q ∨ rInT x y H Q ∨ rIn K false x y H Q
def rNotInA (K : PySem.W.Frag) : R2 := fun x y H Q => rNotInSg x y H Q ∨ rNotInT x y H Q ∨ rIn K true x y H Q
theorem op_inA {X : Cx} : OpR X (compareOp .In) (rInA X.K) := op_in_sign.or (op_in_str.or op_in_seq)
theorem op_notInA {X : Cx} : OpR X (compareOp .NotIn) (rNotInA X.K) := op_notIn_sign.or (op_notIn_str.or op_notIn_seq)
theorem os_in {C : Cg} : OpS C (rInA C.K) D.in_ := fun d1 d2 v1 v2 F H E Q s r1 r2 p => by
  unfold D.in_ D.isIn at p
  split at p
  · obtain ⟨e1, o1⟩ := r1.str
    obtain ⟨e2, o2⟩ := r2.str
    subst e1 e2
    split at p
    · rename_i c
      refine .inl ⟨c, _, rfl, rfl, ?_⟩
      rw [mk_list]
      exact p F H (Ext.refl s) _ (.bl _)
    · exact .inr (.inl ⟨_, _, rfl, rfl, p F H (Ext.refl s) _ (.bl _)⟩)
  · split at p
    · rename_i hf
      rw [Bool.and_eq_true] at hf
      obtain ⟨q, xs, rfl, h1, q1⟩ := r2.lst s
      obtain ⟨a1, a2⟩ := flats r1 hf.1 q1 hf.2
      refine .inr (.inr ⟨q, xs, rfl, .inl (.inl (.inl h1)), flat_rep r1 hf.1, a1, ?_⟩)
      rw [if_neg Bool.false_ne_true, a2]
      exact p F H (Ext.refl s) _ (.bl _)
    · exact p.elim
  · split at p
    · rename_i hf
      rw [Bool.and_eq_true] at hf
      obtain ⟨q, xs, rfl, h1, q1⟩ := r2.tup s
      obtain ⟨a1, a2⟩ := flats r1 hf.1 q1 hf.2
      refine .inr (.inr ⟨q, xs, rfl, .inr h1, flat_rep r1 hf.1, a1, ?_⟩)
      rw [if_neg Bool.false_ne_true, a2]
      exact p F H (Ext.refl s) _ (.bl _)
    · exact p.elim
  · exact p.elim
theorem os_notIn {C : Cg} : OpS C (rNotInA C.K) D.notIn := fun d1 d2 v1 v2 F H E Q s r1 r2 p => by
  unfold D.notIn D.isIn at p
  split at p
  · obtain ⟨e1, o1⟩ := r1.str
    obtain ⟨e2, o2⟩ := r2.str
    subst e1 e2
    split at p
    · rename_i c
      refine .inl ⟨c, _, rfl, rfl, ?_⟩
      rw [mk_list]
      exact p F H (Ext.refl s) _ (.bl _)
    · exact .inr (.inl ⟨_, _, rfl, rfl, p F H (Ext.refl s) _ (.bl _)⟩)
  · split at p
    · rename_i hf
      rw [Bool.and_eq_true] at hf
      obtain ⟨q, xs, rfl, h1, q1⟩ := r2.lst s
      obtain ⟨a1, a2⟩ := flats r1 hf.1 q1 hf.2
      refine .inr (.inr ⟨q, xs, rfl, .inl (.inl (.inl h1)), flat_rep r1 hf.1, a1, ?_⟩)
      rw [if_pos rfl, a2]
      exact p F H (Ext.refl s) _ (.bl _)
    · exact p.elim
  · split at p
    · rename_i hf
      rw [Bool.and_eq_true] at hf
      obtain ⟨q, xs, rfl, h1, q1⟩ := r2.tup s
      obtain ⟨a1, a2⟩ := flats r1 hf.1 q1 hf.2
      refine .inr (.inr ⟨q, xs, rfl, .inr h1, flat_rep r1 hf.1, a1, ?_⟩)
      rw [if_pos rfl, a2]
      exact p F H (Ext.refl s) _ (.bl _)
    · exact p.elim
  · exact p.elim

/-! ### built-ins by values -/
def CallS (C : Cg) (r : List V → Hp → VK → Prop) (g : List D → R D) : Prop := ∀ (ds : List D) (vs : List V) (F H : Hp) (E : XK) (Q : VK), Same F H → RepRs C F H ds vs → Post C E F H (g ds) (kV C Q) → r vs H Q
section
variable {X : Cx} {C : Cg} {x : Str} {id T : String} {p pos : Pos} {e : Expr} {es : List Expr} {t : TA} {m : Env → R (List D)} {r : List V → Hp → VK → Prop} {g : List D → R D}
theorem cb_rd (hs : CallS C r g) (ha : FB X C es t m) : ∀ Γ σ F H Q, EnvOk C Γ σ F H → Post C (WE C.W σ) F H (mCall g m Γ) (kV C Q) → tCB r t σ H Q := fun Γ σ F H Q en q =>
  ha.rd Γ σ F H _ en (Post.bind q fun ds F1 H1 x1 p1 vs rs => hs ds vs F1 H1 _ Q x1.sub rs p1)
theorem fe_callB (hc : CallR X (.builtin id) r) (hs : CallS C r g) (hg : Gl X x) (hm : X.mg x = none) (hv : bootBuiltins x = some (.builtin id)) (ha : FB X C (e :: es) t m) (hn : x ≠ "__name__" := by decide) (hdb : (x == ("__debug__" : Str)) = false := by decide)
    (he : starEach (e :: es) X.env = (false, eval e X.env) :: starEach es X.env := by rfl) (hpl : (backTo pos (starEach es X.env)).any (·.1) = false := by rfl) : FE X C (.Call (.Name x p) (e :: es) [] pos) (tCB r t) (mCall g m) :=
  ⟨pe_callB hc hg hm hv ha.pa hn hdb he hpl, cb_rd hs ha⟩
theorem fe_callTy (hc : CallR X (.type T) r) (hs : CallS C r g) (hg : Gl X x) (hm : X.mg x = none) (hv : bootBuiltins x = some (.type T)) (ha : FB X C (e :: es) t m) (hn : x ≠ "__name__" := by decide) (hdb : (x == ("__debug__" : Str)) = false := by decide)
    (he : starEach (e :: es) X.env = (false, eval e X.env) :: starEach es X.env := by rfl) (hpl : (backTo pos (starEach es X.env)).any (·.1) = false := by rfl) : FE X C (.Call (.Name x p) (e :: es) [] pos) (tCB r t) (mCall g m) :=
  ⟨pe_callTy hc hg hm hv ha.pa hn hdb he hpl, cb_rd hs ha⟩
end
theorem CallR.or {X : Cx} {f : Value} {r r' : List V → Hp → VK → Prop} (h : CallR X f r) (h' : CallR X f r') : CallR X f (fun xs H Q => r xs H Q ∨ r' xs H Q) := by
  intro pins s σ H xs us Q I rs q
  rcases q with q | q
  · exact h pins s σ H xs us Q I rs q
  · exact h' pins s σ H xs us Q I rs q
/-- len -/
def gLen : List D → R D
  | [.str a] => if a.length ≤ 16777216 then .ok (.int a.length) else .stuck
  | [.lst a] => .ok (.int a.length)
  | [.tup a] => .ok (.int a.length)
  | [.scr a] => .ok (.int a.length)
  | _ => .stuck
def rLenV (K : PySem.W.Frag) : List V → Hp → VK → Prop := fun xs H Q => ∃ x n, xs = [x] ∧ LenV K x H n ∧ Q (.int n) H
theorem call_lenV {X : Cx} : CallR X (.builtin "len") (rLenV X.K) := call_len
theorem cs_len {C : Cg} : CallS C (rLenV C.K) gLen := fun ds vs F H E Q s rs p => by
  unfold gLen at p
  split at p
  · rename_i a
    cases rs with
    | cons r rs =>
      cases rs
      obtain ⟨e1, o1⟩ := r.str
      subst e1
      split at p
      · rename_i hl
        exact ⟨_, a.length, rfl, ⟨by rw [mk_len, sizeLine_eq]; exact hl, (mk_len a).symm⟩, p F H (Ext.refl s) _ (.int _)⟩
      · exact p.elim
  · rename_i a
    cases rs with
    | cons r rs =>
      cases rs
      obtain ⟨q, xs, rfl, h1, q1⟩ := r.lst s
      exact ⟨_, a.length, rfl, .inl ⟨xs, .inl (.inl h1), q1.length.symm⟩, p F H (Ext.refl s) _ (.int _)⟩
  · rename_i a
    cases rs with
    | cons r rs =>
      cases rs
      obtain ⟨q, xs, rfl, h1, q1⟩ := r.tup s
      exact ⟨_, a.length, rfl, .inr ⟨xs, h1, q1.length.symm⟩, p F H (Ext.refl s) _ (.int _)⟩
  · rename_i a
    cases rs with
    | cons r rs =>
      cases rs
      obtain ⟨q, rfl, h1⟩ := r.scr s
      exact ⟨_, a.length, rfl, .inl ⟨_, h1, by simp⟩, p F H (Ext.refl s) _ (.int _)⟩
  · exact p.elim
/-- isinstance of a value and a built-in class -/
def D.tyn : D → Option String
  | .non => some "NoneType"
  | .bl _ => some "bool"
  | .int _ => some "int"
  | .str _ => some "str"
  | .lst _ => some "list"
  | .tup _ => some "tuple"
  | .dct _ => some "dict"
  | .scr _ => some "list"
  | _ => none
/-- of built-in types: what isinstance tells -/
def isTy (a b : String) : Option Bool := if ["NoneType", "bool", "int", "str", "list", "tuple", "dict"].contains a && ["bool", "int", "str", "list", "tuple", "dict"].contains b then some (a == b || (a == "bool" && b == "int")) else none
theorem isTy_kit {a b : String} {r : Bool} (h : isTy a b = some r) : kitB a b = some r := by
  unfold isTy at h
  split at h
  · rename_i hc
    rw [Bool.and_eq_true] at hc
    obtain ⟨h1, h2⟩ := hc
    have h3 : ∀ x ∈ ["NoneType", "bool", "int", "str", "list", "tuple", "dict"], ∀ y ∈ ["bool", "int", "str", "list", "tuple", "dict"], kitB x y = some (x == y || (x == "bool" && y == "int")) := by decide +kernel
    rw [← h]
    exact h3 a (by simpa using h1) b (by simpa using h2)
  · cases h
def gIsi : List D → R D
  | [d, .ty n] => match d.tyn with
    | some t => (match isTy t n with
      | some b => .ok (.bl b)
      | none => .stuck)
    | none => .stuck
  | _ => .stuck
theorem tyX_of {C : Cg} {F H : Hp} {d : D} {v : V} {t : String} (s : Same F H) (r : RepR C F H d v) (h : d.tyn = some t) : TyX C.K H v (.type t) := by
  unfold D.tyn at h
  split at h <;> first | cases h | skip
  · rw [r.non]; exact .base .non
  · rw [r.bl]; exact .base (.bl _)
  · rw [r.int]; exact .base (.int _)
  · rw [r.str.1]; exact .base (.str _)
  · obtain ⟨q, xs, rfl, h1, _⟩ := r.lst s; exact .base (.lst h1)
  · obtain ⟨q, xs, rfl, h1, _⟩ := r.tup s
    rcases h1 with (h1 | ⟨o, h1⟩) | ⟨o, its, n, h1, h2, _⟩
    · exact .base (.tup h1)
    · exact .fTuple h1
    · exact .kTuple h1 h2
  · obtain ⟨q, ks, xs, ds, rfl, _, _, _, h1, _⟩ := r.dct s; exact .base (.dK h1)
  · obtain ⟨q, rfl, h1⟩ := r.scr s
    rcases h1 with (h1 | ⟨o, h1⟩) | ⟨o, its, n, h1, h2, _⟩
    · exact .base (.lst h1)
    · exact .base (.frz h1)
    · exact .kList h1 h2
theorem cs_isi {C : Cg} : CallS C (rIsi C.K) gIsi := fun ds vs F H E Q s rs p => by
  unfold gIsi at p
  split at p
  · rename_i d n
    cases rs with
    | cons r rs =>
      cases rs with
      | cons r2 rs =>
        cases rs
        have e2 := r2.ty
        subst e2
        split at p
        · rename_i t ht
          split at p
          · rename_i b hb
            exact ⟨_, _, _, _, b, rfl, .ty n, tyX_of s r ht, kit_ty (isTy_kit hb), p F H (Ext.refl s) _ (.bl _)⟩
          · exact p.elim
        · exact p.elim
  · exact p.elim
/-- min, max of two ints; abs; int of a truth, of an int -/
def gMax2 : List D → R D
  | [.int i, .int j] => .ok (.int (if j > i then j else i))
  | _ => .stuck
def gMin2 : List D → R D
  | [.int i, .int j] => .ok (.int (if j < i then j else i))
  | _ => .stuck
def gAbs : List D → R D
  | [.int i] => .ok (.int (if i < 0 then -i else i))
  | _ => .stuck
def rMax2 : List V → Hp → VK → Prop := fun xs H Q => ∃ i j, xs = [.int i, .int j] ∧ Q (.int (if j > i then j else i)) H
def rMin2 : List V → Hp → VK → Prop := fun xs H Q => ∃ i j, xs = [.int i, .int j] ∧ Q (.int (if j < i then j else i)) H
def rAbs : List V → Hp → VK → Prop := fun xs H Q => ∃ i, xs = [.int i] ∧ Q (.int (if i < 0 then -i else i)) H
theorem call_max2' {X : Cx} (hc : X.calm = true) : CallR X (.builtin "max") rMax2 := call_max2 hc
theorem call_min2' {X : Cx} (hc : X.calm = true) : CallR X (.builtin "min") rMin2 := call_min2 hc
theorem call_abs' {X : Cx} : CallR X (.builtin "abs") rAbs := call_abs
section
variable {C : Cg}
theorem two_ints {F H : Hp} {i j : Int} {vs : List V} (rs : RepRs C F H [.int i, .int j] vs) : vs = [.int i, .int j] := by
  cases rs with
  | cons r rs =>
    cases rs with
    | cons r2 rs =>
      cases rs
      rw [r.int, r2.int]
theorem one_int {F H : Hp} {i : Int} {vs : List V} (rs : RepRs C F H [.int i] vs) : vs = [.int i] := by
  cases rs with
  | cons r rs => cases rs; rw [r.int]
theorem cs_max2 : CallS C rMax2 gMax2 := fun ds vs F H E Q s rs p => by
  unfold gMax2 at p
  split at p
  · exact ⟨_, _, two_ints rs, p F H (Ext.refl s) _ (.int _)⟩
  · exact p.elim
theorem cs_min2 : CallS C rMin2 gMin2 := fun ds vs F H E Q s rs p => by
  unfold gMin2 at p
  split at p
  · exact ⟨_, _, two_ints rs, p F H (Ext.refl s) _ (.int _)⟩
  · exact p.elim
theorem cs_abs : CallS C rAbs gAbs := fun ds vs F H E Q s rs p => by
  unfold gAbs at p
  split at p
  · exact ⟨_, one_int rs, p F H (Ext.refl s) _ (.int _)⟩
  · exact p.elim
end
def D.neg : D → R D
  | .int i => .ok (.int (-i))
  | _ => .stuck
theorem fe_neg {X : Cx} {C : Cg} {a : Expr} {ta : TE} {ma : Env → R D} {pos : Pos} (ha : FE X C a ta ma) : FE X C (.UnaryOp .USub a pos) (tUn (rU fun i => .int (-i)) ta) (fun Γ => do let x ← ma Γ; D.neg x) :=
  ⟨pe_un un_neg ha.pe, fun Γ σ F H Q e p => ha.rd Γ σ F H _ e (Post.bind p fun x F1 H1 x1 p1 v r => by
    cases r with
    | int i => exact ⟨i, rfl, p1 F1 H1 (Ext.refl x1.sub) _ (.int _)⟩
    | _ => exact p1.elim)⟩

/-! ### walks -/
section
variable {X : Cx} {C : Cg} {tg e : Expr} {te : TE} {me : Env → R D} {p pos : Pos}
def asL : D → R (List D)
  | .lst ds => .ok ds
  | .scr ns => .ok (ns.map .int)
  | _ => .stuck
def asTp : D → R (List D)
  | .tup ds => .ok ds
  | _ => .stuck
def asSt : D → R (List D)
  | .str s => .ok (s.map fun c => .str [c])
  | _ => .stuck
theorem itl_ok {a : Addr} {xs : List V} {ds : List D} {F1 : Hp} (h : ∀ F H, Same F1 F → Same F H → SqL C.K H a xs) (one : ∀ {H : Hp} {ys : List V}, SqL C.K H a xs → SqL C.K H a ys → True) (r : Reps C.K C.mg F1 ds xs) : ItOk C (Itl C.K a) ds F1 :=
  ⟨fun F H s1 s2 => ⟨xs, h F H s1 s2, by rw [r.length]; exact Nat.le_refl _⟩, fun F H i hi s1 s2 => ⟨xs, xs[i]'(by rw [r.length]; exact hi), h F H s1 s2, List.getElem?_eq_getElem _⟩,
    fun F H i d x H' hd s1 s2 y => by
      obtain ⟨e, y⟩ := y
      subst e
      obtain ⟨v, h1, h2⟩ := r.get hd
      have e2 : x = v := Option.some.inj ((y xs (h F _ s1 s2)).symm.trans h1)
      subst e2
      exact ⟨F, Ext.refl s2, h2.mono s1⟩⟩
theorem fi_list (hK : X.K = C.K) (he : FE X C e te me) : FI X C tg e (iList X.K te) (fun Γ => do let x ← me Γ; asL x) :=
  ⟨pi_list he.pe, fun Γ σ F H Q en p => he.rd Γ σ F H _ en (Post.bind p fun d F1 H1 x1 p1 v r => by
    rw [hK]
    unfold asL at p1
    split at p1
    · cases r with
      | lst h r => exact ⟨_, rfl, ⟨_, .inl (.inl (x1.sub _ _ h))⟩, p1 F1 H1 (Ext.refl x1.sub) _ (itl_ok (fun F2 H2 s1 s2 => .inl (.inl (s2 _ _ (s1 _ _ h)))) (fun _ _ => trivial) r)⟩
    · cases r with
      | scr h => exact ⟨_, rfl, ⟨_, x1.sub.seq h⟩, p1 F1 H1 (Ext.refl x1.sub) _ (itl_ok (fun F2 H2 s1 s2 => s2.seq (s1.seq h)) (fun _ _ => trivial) reps_ints)⟩
    · exact p1.elim)⟩
theorem fi_tup (hK : X.K = C.K) (he : FE X C e te me) : FI X C tg e (iTup X.K te) (fun Γ => do let x ← me Γ; asTp x) :=
  ⟨pi_tup he.pe, fun Γ σ F H Q en p => he.rd Γ σ F H _ en (Post.bind p fun d F1 H1 x1 p1 v r => by
    rw [hK]
    unfold asTp at p1
    split at p1
    · cases r with
      | @tup a xs ds h r =>
        have hh : ∀ F2 H2, Same F1 F2 → Same F2 H2 → SqT C.K H2 a xs := fun F2 H2 s1 s2 => sqT_same s2 (sqT_same s1 h)
        refine ⟨_, rfl, ⟨_, sqT_same x1.sub h⟩, p1 F1 H1 (Ext.refl x1.sub) _ ⟨fun F H s1 s2 => ⟨xs, hh F H s1 s2, by rw [r.length]; exact Nat.le_refl _⟩, fun F H i hi s1 s2 => ⟨xs, xs[i]'(by rw [r.length]; exact hi), hh F H s1 s2, List.getElem?_eq_getElem _⟩, fun F H i d x H' hd s1 s2 y => ?_⟩⟩
        obtain ⟨e, y⟩ := y
        subst e
        obtain ⟨v, h1, h2⟩ := r.get hd
        have e2 : x = v := Option.some.inj ((y xs (hh F _ s1 s2)).symm.trans h1)
        subst e2
        exact ⟨F, Ext.refl s2, h2.mono s1⟩
    · exact p1.elim)⟩
theorem fi_str (he : FE X C e te me) : FI X C tg e (iStr te) (fun Γ => do let x ← me Γ; asSt x) :=
  ⟨pi_str he.pe, fun Γ σ F H Q en p => he.rd Γ σ F H _ en (Post.bind p fun d F1 H1 x1 p1 v r => by
    unfold asSt at p1
    split at p1
    · rename_i st
      cases r with
      | str _ o =>
        refine ⟨_, rfl, p1 F1 H1 (Ext.refl x1.sub) _ ⟨fun F H s1 s2 => ?_, fun F H i hi s1 s2 => ?_, fun F H i d x H' hd s1 s2 y => ?_⟩⟩
        · show (mk st).cps.size ≤ _
          simp [mk]
        · show i < (mk st).cps.size
          simpa [mk] using hi
        · obtain ⟨e, c, hc, rfl⟩ := y
          subst e
          rw [List.getElem?_map] at hd
          have hc' : st[i]? = some c := by simpa [mk] using hc
          rw [hc'] at hd
          cases hd
          exact ⟨F, Ext.refl s2, .str [c] fun z hz => by rw [List.mem_singleton.mp hz]; exact o c (List.mem_of_getElem? hc')⟩
    · exact p1.elim)⟩
/-- lo, lo + c, .., n of them -/
def rngL (lo c : Int) (n : Nat) : List D := (List.range n).map fun (i : Nat) => .int (lo + (i : Int) * c)
theorem rngL_len (lo c : Int) (n : Nat) : (rngL lo c n).length = n := by simp [rngL]
theorem rngL_get {lo c : Int} {n i : Nat} {d : D} (h : (rngL lo c n)[i]? = some d) : i < n ∧ d = .int (lo + (i : Int) * c) := by
  unfold rngL at h
  rw [List.getElem?_map] at h
  by_cases hi : i < n
  · rw [List.getElem?_range hi] at h
    cases h
    exact ⟨hi, rfl⟩
  · rw [List.getElem?_eq_none (by simpa using hi)] at h
    cases h
def gRange1 : List D → R (List D)
  | [.int j] => if -1000000000 ≤ j ∧ j ≤ 1000000000 then .ok (rngL 0 1 j.toNat) else .stuck
  | _ => .stuck
def gRange2 : List D → R (List D)
  | [.int i, .int j] => if -1000000000 ≤ i ∧ i ≤ 1000000000 ∧ -1000000000 ≤ j ∧ j ≤ 1000000000 then .ok (rngL i 1 (j - i).toNat) else .stuck
  | _ => .stuck
/-- downward by one -/
def gRange3 : List D → R (List D)
  | [.int i, .int j, .int c] => if -1000000000 ≤ i ∧ i ≤ 1000000000 ∧ -1000000000 ≤ j ∧ j ≤ 1000000000 ∧ c = -1 then .ok (rngL i (-1) (i - j).toNat) else .stuck
  | _ => .stuck
theorem itr_ok {lo : Int} {n : Nat} {F1 : Hp} : ItOk C (Itr lo n) (rngL lo 1 n) F1 :=
  ⟨fun F H s1 s2 => by rw [rngL_len]; exact Nat.le_refl _, fun F H i hi s1 s2 => by rw [rngL_len] at hi; exact hi, fun F H i d x H' hd s1 s2 y => by
    obtain ⟨e, rfl⟩ := y
    subst e
    obtain ⟨_, rfl⟩ := rngL_get hd
    refine ⟨F, Ext.refl s2, ?_⟩
    rw [Int.mul_one]
    exact .int _⟩
theorem itc_ok {lo c : Int} {n : Nat} {F1 : Hp} : ItOk C (Itc lo c n) (rngL lo c n) F1 :=
  ⟨fun F H s1 s2 => by rw [rngL_len]; exact Nat.le_refl _, fun F H i hi s1 s2 => by rw [rngL_len] at hi; exact hi, fun F H i d x H' hd s1 s2 y => by
    obtain ⟨e, rfl⟩ := y
    subst e
    obtain ⟨_, rfl⟩ := rngL_get hd
    exact ⟨F, Ext.refl s2, .int _⟩⟩
variable {a b c : Expr} {t : TA} {m : Env → R (List D)}
theorem fi_range1 (hg : Gl X "range") (hm : X.mg "range" = none) (ha : FA X C [a] t m) (hs : starEach [a] X.env = [(false, eval a X.env)] := by rfl) : FI X C tg (.Call (.Name "range" p) [a] [] pos) (iRng1 t) (mCall gRange1 m) :=
  ⟨pi_range1 hg hm ha.pa hs, fun Γ σ F H Q en q => ha.rd Γ σ F H _ en (Post.bind q fun ds F1 H1 x1 p1 vs rs => by
    unfold gRange1 at p1
    split at p1
    · split at p1
      · rename_i j hj
        cases rs with
        | cons r rs =>
          cases rs
          cases r
          exact ⟨j, rfl, by omega, by omega, p1 F1 H1 (Ext.refl x1.sub) _ itr_ok⟩
      · exact p1.elim
    · exact p1.elim)⟩
theorem fi_range2 (hg : Gl X "range") (hm : X.mg "range" = none) (ha : FA X C [a, b] t m) (hs : starEach [a, b] X.env = [(false, eval a X.env), (false, eval b X.env)] := by rfl) (hs2 : starEach [b] X.env = [(false, eval b X.env)] := by rfl) : FI X C tg (.Call (.Name "range" p) [a, b] [] pos) (iRng2 t) (mCall gRange2 m) :=
  ⟨pi_range2 hg hm ha.pa hs hs2, fun Γ σ F H Q en q => ha.rd Γ σ F H _ en (Post.bind q fun ds F1 H1 x1 p1 vs rs => by
    unfold gRange2 at p1
    split at p1
    · split at p1
      · rename_i i j hj
        cases rs with
        | cons r rs =>
          cases rs with
          | cons r2 rs =>
            cases rs
            cases r
            cases r2
            exact ⟨i, j, rfl, ⟨by omega, by omega, by omega, by omega⟩, p1 F1 H1 (Ext.refl x1.sub) _ itr_ok⟩
      · exact p1.elim
    · exact p1.elim)⟩
theorem fi_range3 (hg : Gl X "range") (hm : X.mg "range" = none) (ha : FA X C [a, b, c] t m) (hs : starEach [a, b, c] X.env = (false, eval a X.env) :: starEach [b, c] X.env := by rfl) (hpl : (backTo pos (starEach [b, c] X.env)).any (·.1) = false := by rfl) : FI X C tg (.Call (.Name "range" p) [a, b, c] [] pos) (iRng3 t) (mCall gRange3 m) :=
  ⟨pi_range3 hg hm ha.pa hs hpl, fun Γ σ F H Q en q => ha.rd Γ σ F H _ en (Post.bind q fun ds F1 H1 x1 p1 vs rs => by
    unfold gRange3 at p1
    split at p1
    · split at p1
      · rename_i i j c hj
        cases rs with
        | cons r rs =>
          cases rs with
          | cons r2 rs =>
            cases rs with
            | cons r3 rs =>
              cases rs
              cases r
              cases r2
              cases r3
              obtain ⟨h1, h2, h3, h4, rfl⟩ := hj
              exact ⟨i, j, -1, _, rfl, RgC.neg (by omega) (by omega) (by omega) (by omega), p1 F1 H1 (Ext.refl x1.sub) _ itc_ok⟩
      · exact p1.elim
    · exact p1.elim)⟩
end
end FL

set_option Elab.async false
set_option linter.all false
set_option maxRecDepth 100000
set_option maxHeartbeats 2000000
/-! FL, part 7: what the printed texts name. -/
namespace FL
open PySem PySem.Spec PyProof.Rows L2
set_option autoImplicit false
abbrev mLe (m : Env → R (List D)) : Env → R D := fun Γ => do let x ← m Γ; pure (.lst x)
abbrev mNeg (m : Env → R D) : Env → R D := fun Γ => do let x ← m Γ; D.neg x
abbrev mWalk (f : D → R (List D)) (m : Env → R D) : Env → R (List D) := fun Γ => do let x ← m Γ; f x
abbrev mBrk : Env → SO := fun Γ => .bk Γ
abbrev mCnt : Env → SO := fun Γ => .ct Γ
theorem keeps {K : PySem.W.Frag} {mg : Str → Option Value} {E : XK} {F H : Hp} {i : Nat} : Keeps (cg0 K mg E F H) i := fun _ _ _ => trivial
theorem hu64 {k : Nat} {A : Around} (h : Room k A) : A.units + 64 < cLine := h.units
/-! ### the text's facts -/
structure Tx (fa : List He.Fa) (fn : List He.DefD) (K : PySem.W.Frag) (mg : Str → Option Value) : Prop where
  says : He.SaysD fa fn K
  ex : ∃ h : Heap, K.In h ∧ h.Ns mainGlobals mg
section
variable {fa : List He.Fa} {fn : List He.DefD} {K : PySem.W.Frag} {mg : Str → Option Value} {P : Program} {w : World} {base : Heap}
theorem Tx.glo (T : Tx fa fn K mg) (i : Nat) {x : Str} (h : fa[i]? = some (.glo x)) : mg x = some (.ref (He.ga K x)) := by
  obtain ⟨hp, X, G⟩ := T.ex
  exact He.glo_ok X G (T.says.fact i h)
theorem Tx.free (T : Tx fa fn K mg) (i : Nat) {x : Str} (h : fa[i]? = some (.free x)) : mg x = none := by
  obtain ⟨hp, X, G⟩ := T.ex
  exact He.free_ok X G (T.says.fact i h)
theorem Tx.str (T : Tx fa fn K mg) (i : Nat) {x z : Str} (h : fa[i]? = some (.str x z)) : ∃ t, mg x = some (.str z t) := by
  obtain ⟨hp, X, G⟩ := T.ex
  exact He.str_ok X G (T.says.fact i h)
theorem Tx.int (T : Tx fa fn K mg) (i : Nat) {x : Str} {z : Int} (h : fa[i]? = some (.int x z)) : ∃ t, mg x = some (.int z t) := by
  obtain ⟨hp, X, G⟩ := T.ex
  exact He.int_ok X G (T.says.fact i h)
/-- a def of the text, by its body's plain function -/
theorem Tx.fnbV (T : Tx fa fn K mg) (i j : Nat) {d : He.DefD} {x : Str} {N ps : List Str} {k : Nat} {m : Env → SO} (hd : fn[i]? = some d) (hx : fa[j]? = some (.glo x)) (ha : d.at_ = (x, none)) (hdf : d.dfl = []) (S : FnScope N ps d.scope)
    (hb : ∀ (kV doc pm : Value) (an : Option Addr) (cdv ct : Value) (us : List Value), us.length = ps.length → bindArgs (PySem.W.fnOf d.name d.qual d.params d.body d.scope .none kV doc pm an cdv ct) ⟨us, []⟩ = pure (ps.zip us))
    (h : ∀ (f : Addr) (cdv : Value) (A : Around) (outer : List PySem.Env) (s : Shared) (H F0 : Hp) (E : XK), Room k (A.deeper (envOfC d.qual d.scope s.heap.objs.size f cdv)) → L2N.Takes (cxOf (L2N.CX P w) P w K mg base N d.qual d.scope f cdv A outer s H E) (cg0 K mg E F0 H).W →
      PassesOwn (model P w) (A.deeper (envOfC d.qual d.scope s.heap.objs.size f cdv)) (envOfC d.qual d.scope s.heap.objs.size f cdv) (cxOf (L2N.CX P w) P w K mg base N d.qual d.scope f cdv A outer s H E).xe →
      ∃ t, FB2 (cxOf (L2N.CX P w) P w K mg base N d.qual d.scope f cdv A outer s H E) (cg0 K mg E F0 H) d.body t m) : FnB P w K mg base x (k + 1) ps (spV K mg ps.length (mFn N.length m)) := by
  obtain ⟨fd, F⟩ := T.says.def_ i hd
  have e : He.fAd K d.at_ = He.ga K x := by rw [ha]; rfl
  rw [e] at F
  have e2 : d.dvs K = [] := by
    show d.dfl.map (He.Dv.v K) = []
    rw [hdf]; rfl
  rw [e2] at F
  exact ⟨_, fd, T.glo j hx, F.kp, F.bindsA hb, funD_at F, fn_val F S fun cdv A outer s H F0 E hr => h _ cdv A outer s H F0 E hr (L2N.takes_of rfl rfl rfl rfl) (passes_of rfl)⟩
theorem Tx.fnbL (T : Tx fa fn K mg) (i j : Nat) {d : He.DefD} {x : Str} {N ps : List Str} {k : Nat} {m : Env → SO} (hd : fn[i]? = some d) (hx : fa[j]? = some (.glo x)) (ha : d.at_ = (x, none)) (hdf : d.dfl = []) (S : FnScope N ps d.scope)
    (hb : ∀ (kV doc pm : Value) (an : Option Addr) (cdv ct : Value) (us : List Value), us.length = ps.length → bindArgs (PySem.W.fnOf d.name d.qual d.params d.body d.scope .none kV doc pm an cdv ct) ⟨us, []⟩ = pure (ps.zip us))
    (h : ∀ (f : Addr) (cdv : Value) (A : Around) (outer : List PySem.Env) (s : Shared) (H F0 : Hp) (E : XK), Room k (A.deeper (envOfC d.qual d.scope s.heap.objs.size f cdv)) → L2N.Takes (cxOf (L2N.CX P w) P w K mg base N d.qual d.scope f cdv A outer s H E) (cg0 K mg E F0 H).W →
      PassesOwn (model P w) (A.deeper (envOfC d.qual d.scope s.heap.objs.size f cdv)) (envOfC d.qual d.scope s.heap.objs.size f cdv) (cxOf (L2N.CX P w) P w K mg base N d.qual d.scope f cdv A outer s H E).xe →
      ∃ t, FB2 (cxOf (L2N.CX P w) P w K mg base N d.qual d.scope f cdv A outer s H E) (cg0 K mg E F0 H) d.body t m) : FnB P w K mg base x (k + 1) ps (spL K mg ps.length (mFnL N.length m)) := by
  obtain ⟨fd, F⟩ := T.says.def_ i hd
  have e : He.fAd K d.at_ = He.ga K x := by rw [ha]; rfl
  rw [e] at F
  have e2 : d.dvs K = [] := by
    show d.dfl.map (He.Dv.v K) = []
    rw [hdf]; rfl
  rw [e2] at F
  exact ⟨_, fd, T.glo j hx, F.kp, F.bindsA hb, funD_at F, fn_lst F S fun cdv A outer s H F0 E hr => h _ cdv A outer s H F0 E hr (L2N.takes_of rfl rfl rfl rfl) (passes_of rfl)⟩
end
/-! ### module constants -/
section
variable {X : Cx} {C : Cg} {x : Str} {pos : Pos}
theorem fe_gstr {z : Str} (h : ∃ t, X.mg x = some (.str z t)) (l : List Nat) (hg : Gl X x) (e : z = mk l) (ok : (l.all fun c => decide (c < 1114112)) = true) (hd : (x == ("__debug__" : Str)) = false := by decide) : FE X C (.Name x pos) (tC (.str z)) (mC (.str l)) :=
  fe_tC (by obtain ⟨t, h⟩ := h; exact pe_glob hg h ⟨t, rfl⟩ hd) fun F => by rw [e]; exact .str l (okS_of ok)
theorem fe_gint {z : Int} (h : ∃ t, X.mg x = some (.int z t)) (hg : Gl X x) (hd : (x == ("__debug__" : Str)) = false := by decide) : FE X C (.Name x pos) (tC (.int z)) (mC (.int z)) :=
  fe_tC (by obtain ⟨t, h⟩ := h; exact pe_glob hg h ⟨t, rfl⟩ hd) fun F => .int z
/-! ### own lists -/
def mAppend (i : Nat) (me : Env → R D) : Env → SO := fun Γ => match Γ[i]? with
  | some (.own ds) => lift Γ (me Γ) fun d => if ds.length < 16777216 then .nx (Γ.set i (.own (ds ++ [d]))) else .stuck
  | _ => .stuck
theorem fs_append {e : Expr} {te : TE} {me : Env → R D} {i : Nat} {apos cpos xp : Pos} (hv : PE X (.Name x xp) (tVar i)) (he : FE X C e te me)
    (hbase : attributeBase (.Name x xp) "append" X.env (eval (.Name x xp) X.env) = eval (.Name x xp) X.env := by rfl)
    (hfew : ((backTo cpos (starEach [e] X.env)).all (fun x => !x.1) && (backToKw cpos (keywordEach [] X.env)).all (fun x => x.1.isSome)
      && decide ([e].length + ([] : List Keyword).length + (if ([] : List Keyword).isEmpty then 0 else 1) < 30)) = true := by rfl)
    (hline : (apos.endLine == cpos.line) = true := by rfl) (hs : starEach [e] X.env = (false, eval e X.env) :: starEach [] X.env := by rfl) (hplain : (backTo cpos (starEach [] X.env)).any (·.1) = false := by rfl)
    (hsw : swapsWith (.Call (.Attribute (.Name x xp) "append" apos) [e] [] cpos) none pos.line X.env = pure false := by rfl) :
    FS X C (.Expr (.Call (.Attribute (.Name x xp) "append" apos) [e] [] cpos) pos) (tDrop (tBM X.K "list" rAppend (tVar i) (tCons te tNil))) (mAppend i me) :=
  ⟨ps_expr (pe_bm PySem.F.plainAttrs_list PySem.F.slot_list_append PySem.F.type_list_append mt_append hv (pa_cons he.pe pa_nil hs) hbase hfew hline hs hplain) hsw, fun Γ σ F H D en p => by
    unfold mAppend at p
    split at p
    · rename_i ds hd
      obtain ⟨o, h1, q, h2, xs, h3, h4, h5, r⟩ := en.slot i _ hd
      subst h2
      refine ⟨.ref q, h1, .inl ⟨rfl, _, SqL.of h3⟩, ?_⟩
      refine he.rd Γ σ F H _ en (PostS.lift p en fun d F1 H1 x1 p1 v rv => ?_)
      split at p1
      · rename_i hl
        have g3 := x1.sH _ _ h3
        have g4 := x1.sep _ _ h3 h4
        have r1 := r.mono x1.sF
        have hz : xs.length < sizeLine := by rw [r.length, sizeLine_eq]; exact hl
        exact ⟨q, xs, v, rfl, rfl, g3, hz, p1 _ _ _ ((en.step x1).mut (s := .own (ds ++ [d])) hd rfl rfl h1 g4 h5 ⟨q, rfl, xs ++ [v], upd_same, g4, h5, r1.append (.cons rv .nil)⟩) (.refl _)⟩
      · exact p1.elim
    · exact p.elim⟩
end
end FL

set_option Elab.async false
set_option linter.all false
set_option maxRecDepth 100000
set_option maxHeartbeats 2000000
/-! FL, part 8: the end of a law. -/
namespace FL
open PySem PySem.Spec PyProof.Rows L2
set_option autoImplicit false
theorem cxN_no {P : Program} {w : World} {H : Hp} {s : Shared} {e : Value} {s' : Shared} (h : L2N.CX P w [] H s (fun _ _ _ => False) e s') : False := by
  unfold L2N.CX at h
  obtain ⟨_, _, _, _, _, h⟩ := h
  exact h.2.2.2.2.2.2.2
/-- the law's own def by its plain function, which tells True of every script -/
theorem walk_FL {l : PySem.W.OpenLaw} {n k : Nat} {q : Program} {loose : List Str} {XP : (Str → Option Value) → Heap → Prop} {fa : List He.Fa} {fn : List He.DefD} {d : DefRec} {x : Str} {g : List D → R D}
    (hn : l.most = some n) (hn2 : n ≤ sizeLine) (hdf : d.params.defaults = []) (hr : Room k callerA) (hd : d.name = ("law" : Str))
    (B : ∀ (w : World) (K : PySem.W.Frag) (mg : Str → Option Value) (base : Heap), Tx fa fn K mg → FnB l.prog w K mg base "law" k [x] (spV K mg 1 g)) (hg : ∀ ns : List Int, ns.length ≤ n → g [.scr ns] = .ok (.bl true)) :
    PySem.W.WalkO q loose XP (fun _ h => (∃ K : PySem.W.Frag, K.In h ∧ He.SaysD fa fn K)) l.row.toRowW d [] (fun f vs => PySem.call f vs) := by
  refine Att.attach_call hn hdf fun w s₀ s₁ mg mb fa0 o pm cd doc a vs ns G Y ho hd0 hcd hmg hobj hints hlen hg0 => ?_
  obtain ⟨K, KX, c⟩ := Y
  have T : Tx fa fn K mg := ⟨c, _, KX, G.T.g⟩
  obtain ⟨f, fd, h1, h2, h3, ⟨oc, od, osl, lk⟩, _⟩ := (B w K mg default T).ex
  have hmg' : mg ("law" : Str) = some (.ref fa0) := by rw [← hd]; exact hmg
  rw [h1] at hmg'
  cases hmg'
  refine law_call (sp := spV K mg 1 g) (CX := L2N.CX l.prog w) (w := w) KX G.T.g G.T.b G.T.builtins G.T.nolimit hg0 hobj hints (Nat.le_trans hlen hn2) hr (fun base kb gb => ?_) (fun s u => h3 s [u] rfl) (fun H hO hS => ?_) fun H e s' h => cxN_no h
  · obtain ⟨f', fd', g1, g2, g3, ⟨oc', od', osl', lk'⟩, g4⟩ := (B w K mg base T).ex
    rw [h1] at g1
    cases g1
    rw [lk] at lk'
    cases lk'
    exact g4
  · refine ⟨rfl, H, [.scr ns], Same.refl H, .cons (.scr hS) .nil, ?_⟩
    rw [hg ns hlen]
    exact fun F' H' x v r => by
      cases r
      rfl
end FL

set_option Elab.async false
set_option linter.all false
set_option maxRecDepth 100000
set_option maxHeartbeats 2000000
/-! FL, part 9: the plain functions reckoned. -/
namespace FL
open PySem PySem.Spec PyProof.Rows L2
set_option autoImplicit false
section
variable {Γ : Env} {i : Nat} {α β : Type}
def getV : Option Slot → R D
  | some (.val d) => .ok d
  | _ => .stuck
def getR : Option Slot → R D
  | some (.val d) => .ok d
  | some (.own ds) => .ok (.lst ds)
  | _ => .stuck
theorem mVar_ev : mVar i Γ = getV Γ[i]? := by
  unfold mVar getV
  split <;> simp_all
theorem mVarR_ev : mVarR i Γ = getR Γ[i]? := by
  unfold mVarR getR
  split <;> simp_all
theorem getV_val (d : D) : getV (some (.val d)) = .ok d := rfl
theorem getR_val (d : D) : getR (some (.val d)) = .ok d := rfl
theorem getR_own (d : List D) : getR (some (.own d)) = .ok (.lst d) := rfl
theorem mC_ev (d : D) : mC d Γ = .ok d := rfl
theorem mOp_ev (g : D → D → R D) (a b : Env → R D) : mOp g a b Γ = (a Γ >>= fun x => b Γ >>= fun y => g x y) := rfl
theorem mOpL_ev (g : D → D → R (List D)) (a b : Env → R D) : mOpL g a b Γ = (a Γ >>= fun x => b Γ >>= fun y => g x y) := rfl
theorem mT_ev (m : Env → R D) : mT m Γ = (m Γ >>= asB) := rfl
theorem asB_bl (b : Bool) : asB (.bl b) = .ok b := rfl
theorem mAnd_ev (p q : Env → R Bool) : mAnd p q Γ = (p Γ >>= fun x => if x = true then q Γ else .ok false) := rfl
theorem mOr_ev (p q : Env → R Bool) : mOr p q Γ = (p Γ >>= fun x => if x = true then .ok true else q Γ) := rfl
theorem mNot_ev (p : Env → R Bool) : mNot p Γ = (p Γ >>= fun x => .ok (!x)) := rfl
theorem mAndV_ev (p q : Env → R D) : mAndV p q Γ = (p Γ >>= fun x => asB x >>= fun k => if k = true then q Γ else .ok (.bl false)) := rfl
theorem mOrV_ev (p q : Env → R D) : mOrV p q Γ = (p Γ >>= fun x => asB x >>= fun k => if k = true then .ok (.bl true) else q Γ) := rfl
theorem mNotV_ev (p : Env → R D) : mNotV p Γ = (p Γ >>= fun x => asB x >>= fun k => .ok (.bl (!k))) := rfl
theorem mIf_ev (p : Env → R Bool) (q r : Env → R D) : mIf p q r Γ = (p Γ >>= fun x => if x = true then q Γ else r Γ) := rfl
theorem mNil_ev : mNil Γ = .ok [] := rfl
theorem mCons_ev (a : Env → R D) (m : Env → R (List D)) : mCons a m Γ = (a Γ >>= fun x => m Γ >>= fun xs => .ok (x :: xs)) := rfl
theorem mTup_ev (m : Env → R (List D)) : mTup m Γ = (m Γ >>= fun xs => if xs.length ≤ 16777216 then .ok (.tup xs) else .stuck) := rfl
theorem mLst_ev (m : Env → R (List D)) : mLst m Γ = (m Γ >>= fun xs => if xs.length ≤ 16777216 then .ok xs else .stuck) := rfl
theorem mCall_ev (g : List D → R α) (m : Env → R (List D)) : mCall g m Γ = (m Γ >>= g) := rfl
theorem mPn_ev : mPn Γ = .ok none := rfl
theorem mPs_ev (m : Env → R D) : mPs m Γ = (m Γ >>= fun x => asI x >>= fun i => .ok (some i)) := rfl
theorem asI_int (i : Int) : asI (.int i) = .ok i := rfl
theorem mSl_ev (m : Env → R D) (a b : Env → R (Option Int)) : mSl m a b Γ = (m Γ >>= fun x => a Γ >>= fun i => b Γ >>= fun j => D.sl x i j) := rfl
theorem mSlL_ev (m : Env → R D) (a b : Env → R (Option Int)) : mSlL m a b Γ = (m Γ >>= fun x => a Γ >>= fun i => b Γ >>= fun j => lsl x i j) := rfl
theorem mWalk_ev (f : D → R (List D)) (m : Env → R D) : mWalk f m Γ = (m Γ >>= f) := rfl
theorem mLe_ev (m : Env → R (List D)) : mLe m Γ = (m Γ >>= fun x => .ok (.lst x)) := rfl
theorem mNeg_ev (m : Env → R D) : mNeg m Γ = (m Γ >>= D.neg) := rfl
theorem asL_lst (ds : List D) : asL (.lst ds) = .ok ds := rfl
theorem asL_scr (ns : List Int) : asL (.scr ns) = .ok (ns.map .int) := rfl
theorem asTp_tup (ds : List D) : asTp (.tup ds) = .ok ds := rfl
theorem asSt_str (s : List Nat) : asSt (.str s) = .ok (s.map fun c => .str [c]) := rfl
theorem R_ite {c : Prop} [Decidable c] (a b : R α) (f : α → R β) : ((if c then a else b) >>= f) = if c then a >>= f else b >>= f := by
  split <;> rfl
/-! statements -/
theorem mSeq_ev (a b : Env → SO) : mSeq a b Γ = (a Γ).bind b := rfl
theorem mSkip_ev : mSkip Γ = .nx Γ := rfl
theorem bind_nx (k : Env → SO) : (SO.nx Γ).bind k = k Γ := rfl
theorem bind_rt (d : D) (k : Env → SO) : (SO.rt d).bind k = .rt d := rfl
theorem bind_rtL (d : List D) (k : Env → SO) : (SO.rtL d).bind k = .rtL d := rfl
theorem bind_bk (k : Env → SO) : (SO.bk Γ).bind k = .bk Γ := rfl
theorem bind_ct (k : Env → SO) : (SO.ct Γ).bind k = .ct Γ := rfl
theorem bind_ex (n : Str) (d : Option D) (k : Env → SO) : (SO.ex Γ n d).bind k = .ex Γ n d := rfl
theorem bind_ite {c : Prop} [Decidable c] (a b : SO) (k : Env → SO) : (if c then a else b).bind k = if c then a.bind k else b.bind k := by
  split <;> rfl
theorem lift_ok (a : α) (k : α → SO) : lift Γ (.ok a) k = k a := rfl
theorem lift_exc (n : Str) (d : Option D) (k : α → SO) : lift Γ (.exc n d) k = .ex Γ n d := rfl
theorem lift_ite {c : Prop} [Decidable c] (a b : R α) (k : α → SO) : lift Γ (if c then a else b) k = if c then lift Γ a k else lift Γ b k := by
  split <;> rfl
theorem mAsg_ev (m : Env → R D) : mAsg i m Γ = lift Γ (m Γ) fun d => .nx (Γ.set i (.val d)) := rfl
theorem mAsgL_ev (m : Env → R (List D)) : mAsgL i m Γ = lift Γ (m Γ) fun d => .nx (Γ.set i (.own d)) := rfl
theorem mDrop_ev (m : Env → R D) : mDrop m Γ = lift Γ (m Γ) fun d => .nx Γ := rfl
theorem mRet_ev (m : Env → R D) : mRet m Γ = lift Γ (m Γ) fun d => .rt d := rfl
theorem mRetL_ev (m : Env → R (List D)) : mRetL m Γ = lift Γ (m Γ) fun d => .rtL d := rfl
theorem mRetN_ev : mRetN Γ = .rt .non := rfl
def getO : Option Slot → SO
  | some (.own ds) => .rtL ds
  | _ => .stuck
theorem mRetOwn_ev : mRetOwn i Γ = getO Γ[i]? := by
  unfold mRetOwn getO
  split <;> simp_all
theorem getO_own (ds : List D) : getO (some (.own ds)) = .rtL ds := rfl
theorem mIfS_ev (c : Env → R Bool) (a b : Env → SO) : mIfS c a b Γ = lift Γ (c Γ) fun k => if k = true then a Γ else b Γ := rfl
def onO (Γ : Env) (i : Nat) (k : Env → SO) : Option Slot → SO
  | some (.own ds) => k (Γ.set i (.val (.lst ds)))
  | some (.ownd kvs) => k (Γ.set i (.val (.dct kvs)))
  | _ => k Γ
theorem mSet1_ev (k : Env → SO) : mSet1 i k Γ = onO Γ i k Γ[i]? := by
  unfold mSet1 onO
  split <;> simp_all
theorem onO_own (ds : List D) (k : Env → SO) : onO Γ i k (some (.own ds)) = k (Γ.set i (.val (.lst ds))) := rfl
theorem onO_val (d : D) (k : Env → SO) : onO Γ i k (some (.val d)) = k Γ := rfl
def putO (Γ : Env) (i : Nat) (r : R D) : Option Slot → SO
  | some (.own ds) => lift Γ r fun d => if ds.length < 16777216 then .nx (Γ.set i (.own (ds ++ [d]))) else .stuck
  | _ => .stuck
theorem mAppend_ev (m : Env → R D) : mAppend i m Γ = putO Γ i (m Γ) Γ[i]? := by
  unfold mAppend putO
  split <;> simp_all
theorem putO_own (ds : List D) (d : D) (h : ds.length < 16777216) : putO Γ i (.ok d) (some (.own ds)) = .nx (Γ.set i (.own (ds ++ [d]))) := by
  show (if ds.length < 16777216 then SO.nx (Γ.set i (.own (ds ++ [d]))) else .stuck) = _
  rw [if_pos h]
def optSO : Option Env → SO
  | some Γ' => .nx Γ'
  | none => .stuck
theorem mAsgG_ev (g : Env → D → Option Env) (m : Env → R D) : mAsgG g m Γ = lift Γ (m Γ) fun d => optSO (g Γ d) := by
  unfold mAsgG optSO
  rfl
theorem optSO_some : optSO (some Γ) = .nx Γ := rfl
theorem gSet_ev (d : D) : gSet i Γ d = some (Γ.set i (.val d)) := rfl
theorem gsNil_ev : gsNil Γ [] = some Γ := rfl
theorem gsCons_ev (m : Env → D → Option Env) (ms : Env → List D → Option Env) (d : D) (ds : List D) : gsCons m ms Γ (d :: ds) = (m Γ d).bind fun Γ1 => ms Γ1 ds := rfl
theorem obind_some {γ δ : Type} (a : γ) (f : γ → Option δ) : (some a).bind f = f a := rfl
theorem gTupM_1 (ms : Env → List D → Option Env) (d0 : D) : gTupM 1 ms Γ (.tup [d0]) = ms Γ [d0] := rfl
theorem gTupM_2 (ms : Env → List D → Option Env) (d0 d1 : D) : gTupM 2 ms Γ (.tup [d0, d1]) = ms Γ [d0, d1] := rfl
theorem gTupM_3 (ms : Env → List D → Option Env) (d0 d1 d2 : D) : gTupM 3 ms Γ (.tup [d0, d1, d2]) = ms Γ [d0, d1, d2] := rfl
theorem gTupM_4 (ms : Env → List D → Option Env) (d0 d1 d2 d3 : D) : gTupM 4 ms Γ (.tup [d0, d1, d2, d3]) = ms Γ [d0, d1, d2, d3] := rfl
theorem gTupM_5 (ms : Env → List D → Option Env) (d0 d1 d2 d3 d4 : D) : gTupM 5 ms Γ (.tup [d0, d1, d2, d3, d4]) = ms Γ [d0, d1, d2, d3, d4] := rfl
theorem gTupM_6 (ms : Env → List D → Option Env) (d0 d1 d2 d3 d4 d5 : D) : gTupM 6 ms Γ (.tup [d0, d1, d2, d3, d4, d5]) = ms Γ [d0, d1, d2, d3, d4, d5] := rfl
theorem mFor_ev (mi : Env → R (List D)) (g : Env → D → Option Env) (body : Env → SO) : mFor mi g body Γ = lift Γ (mi Γ) fun ds => forL g body ds Γ := rfl
theorem retD_nx : retD (.nx Γ) = .ok .non := rfl
theorem retD_rt (d : D) : retD (.rt d) = .ok d := rfl
theorem retD_rtL (d : List D) : retD (.rtL d) = .ok (.lst d) := rfl
theorem retD_ex (n : Str) (d : Option D) : retD (.ex Γ n d) = .exc n d := rfl
theorem retD_ite {c : Prop} [Decidable c] (a b : SO) : retD (if c then a else b) = if c then retD a else retD b := by
  split <;> rfl
theorem retLs_rtL (d : List D) : retLs (.rtL d) = .ok d := rfl
theorem retLs_ex (n : Str) (d : Option D) : retLs (.ex Γ n d) = .exc n d := rfl
theorem retLs_ite {c : Prop} [Decidable c] (a b : SO) : retLs (if c then a else b) = if c then retLs a else retLs b := by
  split <;> rfl
theorem nth_zero {a : Slot} {l : Env} : (a :: l)[0]? = some a := rfl
theorem nth_succ {a : Slot} {l : Env} {n : Nat} : (a :: l)[n + 1]? = l[n]? := rfl
theorem set_zero {a b : Slot} {l : Env} : (a :: l).set 0 b = b :: l := rfl
theorem set_succ {a b : Slot} {l : Env} {n : Nat} : (a :: l).set (n + 1) b = a :: l.set n b := rfl
/-! operations -/
theorem add_int (i j : Int) : D.add (.int i) (.int j) = .ok (.int (i + j)) := rfl
theorem add_str (a b : List Nat) (h : a.length + b.length ≤ 16777216) : D.add (.str a) (.str b) = .ok (.str (a ++ b)) := if_pos h
theorem add_lst (a b : List D) (h : a.length + b.length ≤ 16777216) : D.add (.lst a) (.lst b) = .ok (.lst (a ++ b)) := if_pos h
theorem lcat_lst (a b : List D) (h : a.length + b.length ≤ 16777216) : lcat (.lst a) (.lst b) = .ok (a ++ b) := if_pos h
theorem sub_int' (i j : Int) : D.sub (.int i) (.int j) = .ok (.int (i - j)) := rfl
theorem neg_int' (i : Int) : D.neg (.int i) = .ok (.int (-i)) := rfl
theorem lt_int' (i j : Int) : D.lt (.int i) (.int j) = .ok (.bl (decide (i < j))) := rfl
theorem le_int' (i j : Int) : D.le (.int i) (.int j) = .ok (.bl (decide (i ≤ j))) := rfl
theorem gt_int' (i j : Int) : D.gt (.int i) (.int j) = .ok (.bl (decide (j < i))) := rfl
theorem ge_int' (i j : Int) : D.ge (.int i) (.int j) = .ok (.bl (decide (j ≤ i))) := rfl
theorem mod_int' (i j : Int) (h : 0 < j) : D.mod (.int i) (.int j) = .ok (.int (i % j)) := if_pos h
theorem fdiv_int (i j : Int) (h : 0 < j) (h' : j < 1000000000000000000) : D.fdiv (.int i) (.int j) = .ok (.int (i / j)) := if_pos ⟨h, by
  have h1 : j.natAbs ≠ 0 := by omega
  have h2 : j.natAbs < 2 ^ 9000 := by
    have : (1000000000000000000 : Nat) < 2 ^ 9000 := by
      have : (2 : Nat) ^ 60 ≤ 2 ^ 9000 := Nat.pow_le_pow_right (by decide) (by decide)
      omega
    omega
  exact (Nat.log2_lt h1).mpr h2⟩
theorem mul_small (i j : Int) (h : i.natAbs < 2 ^ 500000) (h' : j.natAbs < 2 ^ 499999) : D.mul (.int i) (.int j) = .ok (.int (i * j)) := if_pos (by
  have h1 : i.natAbs.log2 < 500000 := by
    by_cases h0 : i.natAbs = 0
    · rw [h0]; decide
    · exact (Nat.log2_lt h0).mpr h
  have h2 : j.natAbs.log2 < 499999 := by
    by_cases h0 : j.natAbs = 0
    · rw [h0]; decide
    · exact (Nat.log2_lt h0).mpr h'
  omega)
theorem mul_big (i j : Int) (h : i.natAbs < 2 ^ 40000000) (h' : j.natAbs < 2 ^ 40000000) : D.mul (.int i) (.int j) = .ok (.int (i * j)) := if_pos (by
  have h1 : i.natAbs.log2 < 40000000 := by
    by_cases h0 : i.natAbs = 0
    · rw [h0]; decide
    · exact (Nat.log2_lt h0).mpr h
  have h2 : j.natAbs.log2 < 40000000 := by
    by_cases h0 : j.natAbs = 0
    · rw [h0]; decide
    · exact (Nat.log2_lt h0).mpr h'
  omega)
theorem big_pow {n k : Nat} (h : n < 2 ^ 64) (hk : 64 ≤ k) : n < 2 ^ k := Nat.lt_of_lt_of_le h (Nat.pow_le_pow_right (by decide) hk)
theorem mul_int' (i j : Int) (h : i.natAbs < 18446744073709551616) (h' : j.natAbs < 18446744073709551616) : D.mul (.int i) (.int j) = .ok (.int (i * j)) := mul_small i j (big_pow h (by decide)) (big_pow h' (by decide))
theorem mul_str' (a : List Nat) (k : Int) (h : -1000000 ≤ k) (h1 : k ≤ 1000000) (h2 : a.length * k.toNat ≤ 16777216) : D.mul (.str a) (.int k) = .ok (.str (repS a k.toNat)) := if_pos ⟨h, h1, h2⟩
theorem isN_non : D.isN .non .non = .ok (.bl true) := rfl
theorem isN_int (i : Int) : D.isN (.int i) .non = .ok (.bl false) := rfl
theorem notN_non : D.notN .non .non = .ok (.bl false) := rfl
theorem notN_int (i : Int) : D.notN (.int i) .non = .ok (.bl true) := rfl
theorem eq_int' (i j : Int) : D.eq (.int i) (.int j) = .ok (.bl (decide (i = j))) := rfl
theorem ne_int' (i j : Int) : D.ne (.int i) (.int j) = .ok (.bl (!decide (i = j))) := rfl
theorem eq_str' (i j : List Nat) : D.eq (.str i) (.str j) = .ok (.bl (decide (i = j))) := rfl
theorem ne_str' (i j : List Nat) : D.ne (.str i) (.str j) = .ok (.bl (!decide (i = j))) := rfl
theorem eq_bl' (i j : Bool) : D.eq (.bl i) (.bl j) = .ok (.bl (i == j)) := rfl
theorem ne_bl' (i j : Bool) : D.ne (.bl i) (.bl j) = .ok (.bl (!(i == j))) := rfl
theorem len_str' (a : List Nat) (h : a.length ≤ 16777216) : gLen [.str a] = .ok (.int a.length) := if_pos h
theorem len_lst (a : List D) : gLen [.lst a] = .ok (.int a.length) := rfl
theorem len_tup (a : List D) : gLen [.tup a] = .ok (.int a.length) := rfl
theorem len_scr (a : List Int) : gLen [.scr a] = .ok (.int a.length) := rfl
theorem max_int (i j : Int) : gMax2 [.int i, .int j] = .ok (.int (if j > i then j else i)) := rfl
theorem min_int (i j : Int) : gMin2 [.int i, .int j] = .ok (.int (if j < i then j else i)) := rfl
theorem sl_str' (a : List Nat) (lo hi : Option Int) (h : a.length ≤ 16777216) : D.sl (.str a) lo hi = .ok (.str (cutL a lo hi)) := if_pos h
theorem sl_lst (a : List D) (lo hi : Option Int) : D.sl (.lst a) lo hi = .ok (.lst (cutL a lo hi)) := rfl
theorem sl_scr (a : List Int) (lo hi : Option Int) : D.sl (.scr a) lo hi = .ok (.lst ((cutL a lo hi).map .int)) := rfl
theorem lsl_lst (a : List D) (lo hi : Option Int) : lsl (.lst a) lo hi = .ok (cutL a lo hi) := rfl
theorem lsl_scr (a : List Int) (lo hi : Option Int) : lsl (.scr a) lo hi = .ok ((cutL a lo hi).map .int) := rfl
theorem atI_pos {xs : List α} {i : Int} (d : α) (h : 0 ≤ i) (h' : i < xs.length) : atI xs i = some (xs.getD i.toNat d) := by
  obtain ⟨k, rfl⟩ : ∃ k : Nat, i = k := ⟨i.toNat, by omega⟩
  have hk : k < xs.length := by omega
  rw [atI_nat (v := xs[k]) (List.getElem?_eq_getElem hk), Int.toNat_natCast]
  simp [List.getD, List.getElem?_eq_getElem hk]
theorem ix_str' (a : List Nat) (i : Int) (h0 : a.length ≤ 16777216) (h : 0 ≤ i) (h' : i < a.length) : D.ix (.str a) (.int i) = .ok (.str [a.getD i.toNat 0]) := by
  show (if a.length ≤ 16777216 then _ else _) = _
  rw [if_pos h0, atI_pos 0 h h']
theorem ix_lst (a : List D) (i : Int) (h : 0 ≤ i) (h' : i < a.length) : D.ix (.lst a) (.int i) = .ok (a.getD i.toNat .non) := by
  show (match atI a i with | some d => R.ok d | none => .stuck) = _
  rw [atI_pos .non h h']
theorem ix_tup' (a : List D) (i : Int) (h : 0 ≤ i) (h' : i < a.length) : D.ix (.tup a) (.int i) = .ok (a.getD i.toNat .non) := by
  show (match atI a i with | some d => R.ok d | none => .stuck) = _
  rw [atI_pos .non h h']
theorem ix_scr (a : List Int) (i : Int) (h : 0 ≤ i) (h' : i < a.length) : D.ix (.scr a) (.int i) = .ok (.int (a.getD i.toNat 0)) := by
  show (match atI a i with | some d => R.ok (D.int d) | none => .stuck) = _
  rw [atI_pos 0 h h']
theorem range1_ok (j : Int) (h : -1000000000 ≤ j) (h' : j ≤ 1000000000) : gRange1 [.int j] = .ok (rngL 0 1 j.toNat) := if_pos ⟨h, h'⟩
theorem range2_ok (i j : Int) (h : -1000000000 ≤ i) (h1 : i ≤ 1000000000) (h2 : -1000000000 ≤ j) (h' : j ≤ 1000000000) : gRange2 [.int i, .int j] = .ok (rngL i 1 (j - i).toNat) := if_pos ⟨h, h1, h2, h'⟩
theorem range3_ok (i j : Int) (h : -1000000000 ≤ i) (h1 : i ≤ 1000000000) (h2 : -1000000000 ≤ j) (h' : j ≤ 1000000000) : gRange3 [.int i, .int j, .int (-1)] = .ok (rngL i (-1) (i - j).toNat) := if_pos ⟨h, h1, h2, h', rfl⟩
end
theorem mod_bd (a : Int) {b : Int} (h : 0 < b) : 0 ≤ a % b ∧ a % b < b := ⟨Int.emod_nonneg _ (by omega), Int.emod_lt_of_pos _ h⟩
/-! ### slices of lists -/
theorem cut_nn {α : Type} (xs : List α) (a b : Nat) : cutL xs (some (a : Int)) (some (b : Int)) = (xs.drop a).take (b - a) := by
  unfold cutL
  rw [HT.sIx_nat, HT.sIx_nat]
  apply List.ext_getElem?
  intro i
  simp only [List.getElem?_take, List.getElem?_drop]
  by_cases h : i < b - a
  · by_cases h2 : a + i < xs.length
    · rw [if_pos (by omega), if_pos h, Nat.min_eq_left (by omega)]
    · rw [if_pos h, List.getElem?_eq_none (by omega : xs.length ≤ a + i)]
      split
      · exact List.getElem?_eq_none (by omega)
      · rfl
  · rw [if_neg h]
    split
    · exact List.getElem?_eq_none (by omega)
    · rfl
theorem cut_map {α β : Type} (f : α → β) (xs : List α) (lo hi : Option Int) : cutL (xs.map f) lo hi = (cutL xs lo hi).map f := by
  unfold cutL
  simp [List.map_take, List.map_drop]
theorem cut_len {α : Type} (xs : List α) (lo hi : Option Int) : (cutL xs lo hi).length ≤ xs.length := by
  unfold cutL
  rw [List.length_take, List.length_drop]
  omega
theorem cut_int {α : Type} (xs : List α) (a b : Int) (ha : 0 ≤ a) (hb : 0 ≤ b) : cutL xs (some a) (some b) = (xs.drop a.toNat).take (b.toNat - a.toNat) := by
  obtain ⟨k, rfl⟩ : ∃ k : Nat, a = k := ⟨a.toNat, by omega⟩
  obtain ⟨l, rfl⟩ : ∃ l : Nat, b = l := ⟨b.toNat, by omega⟩
  rw [cut_nn]
  simp
theorem cut_none {α : Type} (xs : List α) (a : Int) (ha : 0 ≤ a) : cutL xs (some a) none = xs.drop a.toNat := by
  obtain ⟨k, rfl⟩ : ∃ k : Nat, a = k := ⟨a.toNat, by omega⟩
  unfold cutL
  rw [HT.sIx_nat]
  show (xs.drop (min k xs.length)).take (xs.length - min k xs.length) = xs.drop ((k : Int)).toNat
  rw [Int.toNat_natCast, List.take_of_length_le (by rw [List.length_drop]; exact Nat.le_refl _)]
  by_cases h : k ≤ xs.length
  · rw [Nat.min_eq_left h]
  · rw [Nat.min_eq_right (by omega), List.drop_length, List.drop_of_length_le (by omega)]
theorem none_cut {α : Type} (xs : List α) (b : Int) (hb : 0 ≤ b) : cutL xs none (some b) = xs.take b.toNat := by
  obtain ⟨k, rfl⟩ : ∃ k : Nat, b = k := ⟨b.toNat, by omega⟩
  unfold cutL
  rw [HT.sIx_nat]
  show (xs.drop 0).take (min k xs.length - 0) = xs.take ((k : Int)).toNat
  rw [Int.toNat_natCast, List.drop_zero, Nat.sub_zero]
  by_cases h : k ≤ xs.length
  · rw [Nat.min_eq_left h]
  · rw [Nat.min_eq_right (by omega), List.take_length, List.take_of_length_le (by omega)]
/-! ### loops -/
theorem forL_inv {g : Env → D → Option Env} {body : Env → SO} (I : Nat → Env → Prop) (Z : SO → Prop) : ∀ {ds : List D} {Γ : Env} (k : Nat), I k Γ →
    (∀ (i : Nat) (d : D) (Γ : Env), ds[i]? = some d → I (k + i) Γ → ∃ Γ1, g Γ d = some Γ1 ∧ ((∃ Γ', (body Γ1 = .nx Γ' ∨ body Γ1 = .ct Γ') ∧ I (k + i + 1) Γ') ∨ (∃ Γ', body Γ1 = .bk Γ' ∧ Z (.nx Γ')) ∨ ((∀ Γ', body Γ1 ≠ .nx Γ' ∧ body Γ1 ≠ .ct Γ' ∧ body Γ1 ≠ .bk Γ') ∧ Z (body Γ1)))) →
    (∃ Γ', forL g body ds Γ = .nx Γ' ∧ I (k + ds.length) Γ') ∨ Z (forL g body ds Γ)
  | [], Γ, k, h0, _ => .inl ⟨Γ, rfl, h0⟩
  | d :: ds, Γ, k, h0, hs => by
    obtain ⟨Γ1, hg, h⟩ := hs 0 d Γ rfl h0
    have next : ∀ Γ', I (k + 0 + 1) Γ' → (∃ Γ'', forL g body ds Γ' = .nx Γ'' ∧ I (k + (d :: ds).length) Γ'') ∨ Z (forL g body ds Γ') := fun Γ' h1 => by
      have := forL_inv I Z (ds := ds) (Γ := Γ') (k + 1) h1 fun i e Γ2 he h2 => by
        have q := hs (i + 1) e Γ2 he (by rw [show k + (i + 1) = k + 1 + i by omega]; exact h2)
        rw [show k + (i + 1) + 1 = k + 1 + i + 1 by omega] at q
        exact q
      rw [show k + (d :: ds).length = k + 1 + ds.length by rw [List.length_cons]; omega]
      exact this
    unfold forL
    rw [hg]
    dsimp only
    rcases h with ⟨Γ', h | h, h1⟩ | ⟨Γ', h, h1⟩ | ⟨h, h1⟩
    · simp only [h]; exact next Γ' h1
    · simp only [h]; exact next Γ' h1
    · simp only [h]; exact .inr h1
    · revert h h1
      cases body Γ1 with
      | nx Γ' => exact fun h _ => absurd rfl (h Γ').1
      | ct Γ' => exact fun h _ => absurd rfl (h Γ').2.1
      | bk Γ' => exact fun h _ => absurd rfl (h Γ').2.2
      | rt d => exact fun _ h1 => .inr h1
      | rtL d => exact fun _ h1 => .inr h1
      | ex Γ2 n d => exact fun _ h1 => .inr h1
      | stuck => exact fun _ h1 => .inr h1
/-- a loop that goes to its end -/
theorem forL_end {g : Env → D → Option Env} {body : Env → SO} {ds : List D} {Γ : Env} (I : Nat → Env → Prop) (h0 : I 0 Γ)
    (hs : ∀ (i : Nat) (d : D) (Γ : Env), ds[i]? = some d → I i Γ → ∃ Γ1, g Γ d = some Γ1 ∧ ∃ Γ', (body Γ1 = .nx Γ' ∨ body Γ1 = .ct Γ') ∧ I (i + 1) Γ') : ∃ Γ', forL g body ds Γ = .nx Γ' ∧ I ds.length Γ' := by
  rcases forL_inv (g := g) (body := body) (ds := ds) (Γ := Γ) I (fun _ => False) 0 h0 (fun i d Γ hd h => by
    rw [Nat.zero_add] at h ⊢
    obtain ⟨Γ1, a, b⟩ := hs i d Γ hd h
    exact ⟨Γ1, a, .inl b⟩) with h | h
  · rw [Nat.zero_add] at h; exact h
  · exact h.elim
theorem rngL_at {lo c : Int} {n i : Nat} (h : i < n) : (rngL lo c n)[i]? = some (.int (lo + (i : Int) * c)) := by
  unfold rngL
  rw [List.getElem?_map, List.getElem?_range h]
  rfl
theorem map_get {α : Type} {xs : List α} {f : α → D} {i : Nat} {d : D} (h : (xs.map f)[i]? = some d) : ∃ x, xs[i]? = some x ∧ d = f x := by
  rw [List.getElem?_map] at h
  cases e : xs[i]? with
  | none => rw [e] at h; cases h
  | some x => rw [e] at h; cases h; exact ⟨x, rfl, rfl⟩
/-- a while by a measure -/
theorem while_inv {c : Env → R Bool} {body : Env → SO} (I : Env → Prop) (μ : Env → Nat) (Z : SO → Prop)
    (hs : ∀ Γ, I Γ → (c Γ = .ok false ∧ Z (.nx Γ)) ∨ (c Γ = .ok true ∧ ((∃ Γ', (body Γ = .nx Γ' ∨ body Γ = .ct Γ') ∧ I Γ' ∧ μ Γ' < μ Γ) ∨ (∃ Γ', body Γ = .bk Γ' ∧ Z (.nx Γ')) ∨ ((∀ Γ', body Γ ≠ .nx Γ' ∧ body Γ ≠ .ct Γ' ∧ body Γ ≠ .bk Γ') ∧ Z (body Γ))))) : ∀ (n : Nat) (Γ : Env), I Γ → μ Γ < n → Z (whileN c body n Γ)
  | 0, _, _, h => absurd h (Nat.not_lt_zero _)
  | n + 1, Γ, h, hm => by
    unfold whileN
    rcases hs Γ h with ⟨h1, h2⟩ | ⟨h1, h2⟩
    · rw [h1]; exact h2
    · rw [h1]
      rw [lift_ok, if_pos rfl]
      rcases h2 with ⟨Γ', h2 | h2, h3, h4⟩ | ⟨Γ', h2, h3⟩ | ⟨h2, h3⟩
      · simp only [h2]; exact while_inv I μ Z hs n Γ' h3 (by omega)
      · simp only [h2]; exact while_inv I μ Z hs n Γ' h3 (by omega)
      · simp only [h2]; exact h3
      · revert h2 h3
        cases body Γ with
        | nx Γ' => exact fun h _ => absurd rfl (h Γ').1
        | ct Γ' => exact fun h _ => absurd rfl (h Γ').2.1
        | bk Γ' => exact fun h _ => absurd rfl (h Γ').2.2
        | rt d => exact fun _ h1 => h1
        | rtL d => exact fun _ h1 => h1
        | ex Γ2 n d => exact fun _ h1 => h1
        | stuck => exact fun _ h1 => h1
theorem mWhile_run {c : Env → R Bool} {body : Env → SO} {Γ : Env} (I : Env → Prop) (μ : Env → Nat) (Z : SO → Prop) (h0 : I Γ) (hm : μ Γ < 1000000)
    (hs : ∀ Γ, I Γ → (c Γ = .ok false ∧ Z (.nx Γ)) ∨ (c Γ = .ok true ∧ ((∃ Γ', (body Γ = .nx Γ' ∨ body Γ = .ct Γ') ∧ I Γ' ∧ μ Γ' < μ Γ) ∨ (∃ Γ', body Γ = .bk Γ' ∧ Z (.nx Γ')) ∨ ((∀ Γ', body Γ ≠ .nx Γ' ∧ body Γ ≠ .ct Γ' ∧ body Γ ≠ .bk Γ') ∧ Z (body Γ))))) : Z (mWhile c body Γ) := while_inv I μ Z hs FUEL Γ h0 hm
end FL

set_option Elab.async false
set_option linter.all false
set_option maxRecDepth 100000
set_option maxHeartbeats 2000000
/-! FL, part 10: comprehensions, chains, methods of texts. -/
namespace FL
open PySem PySem.Spec PyProof.Rows L2
set_option autoImplicit false
/-! ### comprehensions -/
theorem wipe_get (σ : St) (j : Nat) : ∀ vs : List Nat, (wipe σ vs)[j]? = if j ∈ vs then (if j < σ.length then some none else none) else σ[j]?
  | [] => by simp [wipe]
  | v :: vs => by
    show ((wipe σ vs).set v none)[j]? = _
    by_cases hj : v = j
    · subst hj
      rw [if_pos (List.mem_cons_self ..)]
      by_cases hl : v < σ.length
      · rw [if_pos hl, List.getElem?_set_self (by rw [wipe_length]; exact hl)]
      · rw [if_neg hl, List.getElem?_eq_none (by rw [List.length_set, wipe_length]; omega)]
    · rw [List.getElem?_set_ne hj, wipe_get σ j vs]
      have : (j ∈ v :: vs) = (j ∈ vs) := by
        apply propext
        constructor
        · intro h
          rcases List.mem_cons.mp h with h | h
          · exact absurd h.symm hj
          · exact h
        · exact List.mem_cons_of_mem _
      simp only [this]
theorem wipe_set {σ : St} {vs : List Nat} {i : Nat} {o : Option V} (h : i ∈ vs) : wipe (σ.set i o) vs = wipe σ vs := by
  apply List.ext_getElem?
  intro j
  rw [wipe_get, wipe_get, List.length_set]
  by_cases hj : j ∈ vs
  · rw [if_pos hj, if_pos hj]
  · rw [if_neg hj, if_neg hj, List.getElem?_set_ne (fun e : i = j => hj (by rw [← e]; exact h))]
theorem wipe_wipe {σ : St} {vs : List Nat} : wipe (wipe σ vs) vs = wipe σ vs := by
  apply List.ext_getElem?
  intro j
  rw [wipe_get, wipe_get, wipe_length]
  by_cases hj : j ∈ vs
  · rw [if_pos hj, if_pos hj]
  · rw [if_neg hj, if_neg hj]
/-- what is fixed within a comprehension's block: nothing is raised, the slots besides its own stay -/
def cgW (C : Cg) (vs : List Nat) (σ : St) : Cg := ⟨C.K, C.mg, fun _ _ _ _ => False, fun σ' => wipe σ' vs = wipe σ vs, C.F0, C.B⟩
theorem keepsW {C : Cg} {vs : List Nat} {σ : St} {i : Nat} (h : i ∈ vs) : Keeps (cgW C vs σ) i := fun σ' o e => (wipe_set h).trans e
theorem takesB {X : Cx} {C : Cg} {vs : List Nat} {σ : St} : L2N.Takes X (cgW C vs σ).W := fun u s' ⟨a, B, sI, pins, σ, H, cls, d, e, I, nb, up, sky, na, os, ag, w⟩ => w.elim
def wipeE (Γ : Env) : List Nat → Env
  | [] => Γ
  | v :: vs => (wipeE Γ vs).set v .no
structure FTs (X : Cx) (C : Cg) (ifs : List Expr) (t : TT) (m : Env → R Bool) : Prop where
  pt : PTs X ifs t
  rd : ∀ Γ σ F H Q, EnvOk C Γ σ F H → Post C (WE C.W σ) F H (m Γ) (fun b _ H' => Q b H') → t σ H Q
def mYes : Env → R Bool := fun _ => .ok true
theorem fts_nil {X : Cx} {C : Cg} : FTs X C [] tYes mYes := ⟨pts_nil, fun Γ σ F H Q e p => p F H (Ext.refl e.sub)⟩
theorem fts_one {X : Cx} {C : Cg} {c : Expr} {t : TT} {m : Env → R Bool} (h : FT X C c t m) : FTs X C [c] t m := ⟨pts_one h.pt, h.rd⟩
def noX {α : Type} : R α → R α
  | .ok a => .ok a
  | _ => .stuck
def turnC (g : Env → D → Option Env) (mt : Env → R Bool) (me : Env → R D) (Γ : Env) (d : D) : R (Option D) := match g Γ d with
  | none => .stuck
  | some Γ1 => noX (mt Γ1 >>= fun b => if b = true then me Γ1 >>= fun y => .ok (some y) else .ok none)
def compL (t : D → R (Option D)) : List D → R (List D)
  | [] => .ok []
  | d :: ds => t d >>= fun o => compL t ds >>= fun r => .ok (match o with | some y => y :: r | none => r)
def mComp (vs : List Nat) (mi : Env → R (List D)) (g : Env → D → Option Env) (mt : Env → R Bool) (me : Env → R D) : Env → R (List D) := fun Γ => mi Γ >>= fun ds => if ds.length < 16777216 then compL (turnC g mt me (wipeE Γ vs)) ds else .stuck
theorem turn_ok {g : Env → D → Option Env} {mt : Env → R Bool} {me : Env → R D} {Γ : Env} {d : D} {o : Option D} (h : turnC g mt me Γ d = .ok o) : ∃ Γ1, g Γ d = some Γ1 ∧ ((mt Γ1 = .ok true ∧ ∃ y, me Γ1 = .ok y ∧ o = some y) ∨ (mt Γ1 = .ok false ∧ o = none)) := by
  unfold turnC at h
  split at h
  · cases h
  · rename_i Γ1 hg
    refine ⟨Γ1, hg, ?_⟩
    revert h
    cases hm : mt Γ1 with
    | ok b =>
      cases b with
      | true =>
        show noX (me Γ1 >>= fun y => R.ok (some y)) = .ok o → _
        cases hy : me Γ1 with
        | ok y => intro h; cases h; exact .inl ⟨rfl, y, rfl, rfl⟩
        | exc n d => intro h; cases h
        | stuck => intro h; cases h
      | false => intro h; cases h; exact .inr ⟨rfl, rfl⟩
    | exc n d => intro h; cases h
    | stuck => intro h; cases h
theorem compL_cons {t : D → R (Option D)} {d : D} {ds res : List D} (h : compL t (d :: ds) = .ok res) : ∃ o r, t d = .ok o ∧ compL t ds = .ok r ∧ res = (match o with | some y => y :: r | none => r) := by
  have h' : (t d >>= fun o => compL t ds >>= fun r => R.ok (match o with | some y => y :: r | none => r)) = .ok res := h
  revert h'
  cases t d with
  | ok o =>
    show (compL t ds >>= fun r => R.ok (match o with | some y => y :: r | none => r)) = .ok res → _
    cases compL t ds with
    | ok r => intro h; cases h; exact ⟨o, r, rfl, rfl, rfl⟩
    | exc n d => intro h; cases h
    | stuck => intro h; cases h
  | exc n d => intro h; cases h
  | stuck => intro h; cases h
theorem compL_noX {g : Env → D → Option Env} {mt : Env → R Bool} {me : Env → R D} {Γ : Env} : ∀ ds : List D, (∃ r, compL (turnC g mt me Γ) ds = .ok r) ∨ compL (turnC g mt me Γ) ds = .stuck
  | [] => .inl ⟨[], rfl⟩
  | d :: ds => by
    have ht : (∃ o, turnC g mt me Γ d = .ok o) ∨ turnC g mt me Γ d = .stuck := by
      unfold turnC
      split
      · exact .inr rfl
      · rename_i Γ1 _
        cases (mt Γ1 >>= fun b => if b = true then me Γ1 >>= fun y => R.ok (some y) else R.ok none) with
        | ok o => exact .inl ⟨o, rfl⟩
        | exc n d => exact .inr rfl
        | stuck => exact .inr rfl
    unfold compL
    rcases ht with ⟨o, e⟩ | e
    · rw [e]
      rcases compL_noX (g := g) (mt := mt) (me := me) (Γ := Γ) ds with ⟨r, e2⟩ | e2
      · rw [e2]; exact .inl ⟨_, rfl⟩
      · rw [e2]; exact .inr rfl
    · rw [e]; exact .inr rfl
section
variable {X : Cx} {C : Cg}
theorem EnvOk.swap {Γ : Env} {σ : St} {F H : Hp} (e : EnvOk C Γ σ F H) (W : WX) (P : St → Prop) (hp : P σ) : EnvOk ⟨C.K, C.mg, W, P, C.F0, C.B⟩ Γ σ F H := ⟨e.ext, hp, e.len, e.slot, e.dist⟩
theorem EnvOk.wipe {Γ : Env} {σ : St} {F H : Hp} (hP : ∀ σ, C.P σ) (e : EnvOk C Γ σ F H) : ∀ vs : List Nat, EnvOk C (wipeE Γ vs) (L2.wipe σ vs) F H
  | [] => e
  | v :: vs => (EnvOk.wipe hP e vs).set (s := .no) (o := none) (hP _) trivial fun z => by cases z
theorem post_ok {α : Type} {E : XK} {F H : Hp} {a : α} {k : α → Hp → Hp → Prop} (h : ∀ F' H', Ext F H F' H' → k a F' H') : Post C E F H (.ok a) k := h
/-- the readings of a block's parts by their plain functions -/
def tCan (Cs : St → Cg) (me : Env → R D) : TE := fun σ' H Q => ∃ σ0 Γ F, EnvOk (Cs σ0) Γ σ' F H ∧ Post (Cs σ0) (WE (Cs σ0).W σ') F H (me Γ) (kV (Cs σ0) Q)
def ttCan (Cs : St → Cg) (mt : Env → R Bool) : TT := fun σ' H Q => ∃ σ0 Γ F, EnvOk (Cs σ0) Γ σ' F H ∧ Post (Cs σ0) (WE (Cs σ0).W σ') F H (mt Γ) (fun b _ H' => Q b H')
def tgCan (Cs : St → Cg) (mg : Env → D → Option Env) : TG := fun v σ' H Q => ∃ σ0 Γ F d Γ', EnvOk (Cs σ0) Γ σ' F H ∧ Rep (Cs σ0).K (Cs σ0).mg F d v ∧ mg Γ d = some Γ' ∧ ∀ σ'', EnvOk (Cs σ0) Γ' σ'' F H → Q σ'' H
section
variable {iter : Expr} {ifs : List Expr} {tg elt : Expr} {scope : Scope} {wi : TI} {mi : Env → R (List D)} {mg : Env → D → Option Env} {mt : Env → R Bool} {me : Env → R D} {vs : List Nat}
theorem comp_rd (hi : FI X C tg iter wi mi) : ∀ Γ σ F H Q, EnvOk C Γ σ F H → Post C (WE C.W σ) F H (mComp vs mi mg mt me Γ) (kL C H Q) → tLc wi (tgCan (cgW C vs) mg) (ttCan (cgW C vs) mt) (tCan (cgW C vs) me) vs σ H Q := fun Γ σ F H Q en p => by
  refine hi.rd Γ σ F H _ en (Post.bind p fun ds F1 H1 x1 p1 J ok D hD => ?_)
  split at p1
  case isFalse => exact p1.elim
  rename_i hsz
  rcases compL_noX (g := mg) (mt := mt) (me := me) (Γ := wipeE Γ vs) ds with ⟨res, hres⟩ | hres
  case inr => rw [hres] at p1; exact p1.elim
  rw [hres] at p1
  have en1 := en.step x1
  have enT : EnvOk ⟨C.K, C.mg, fun _ _ _ _ => False, fun _ => True, C.F0, C.B⟩ Γ σ F1 H1 := en1.swap _ _ trivial
  have enW : EnvOk (cgW C vs σ) (wipeE Γ vs) (wipe σ vs) F1 H1 := (enT.wipe (fun _ => trivial) vs).swap _ _ wipe_wipe
  have FD : F1 D = none := sub_none x1.sub hD
  refine ⟨fun i m H' => m = ds.length - i ∧ i ≤ ds.length ∧ ∃ F' acc ads rest, Ext F1 H1 F' H' ∧ H' D = some (.lst acc) ∧ F' D = none ∧ Reps C.K C.mg F' ads acc ∧ ads.length ≤ i ∧ res = ads ++ rest ∧ compL (turnC mg mt me (wipeE Γ vs)) (ds.drop i) = .ok rest,
    ⟨ds.length, by simp, Nat.zero_le _, F1, [], [], res, Ext.raw x1.sub hD, upd_same, FD, .nil, Nat.zero_le _, rfl, hres⟩, ?_⟩
  rintro i m H' ⟨rfl, hi', F', acc, ads, rest, xe, hDl, hDF, hr, hal, hre, hcl⟩
  by_cases hlt : i < ds.length
  · rw [List.drop_eq_getElem_cons hlt] at hcl
    obtain ⟨o, r, ho, hc2, hrr⟩ := compL_cons hcl
    obtain ⟨Γ1, hg1, hcase⟩ := turn_ok ho
    refine .inr ⟨ok.go F' H' i hlt xe.sF xe.sub, fun H2 => i + 1 ≤ ds.length ∧ ∃ F' acc ads rest, Ext F1 H1 F' H2 ∧ H2 D = some (.lst acc) ∧ F' D = none ∧ Reps C.K C.mg F' ads acc ∧ ads.length ≤ i + 1 ∧ res = ads ++ rest ∧ compL (turnC mg mt me (wipeE Γ vs)) (ds.drop (i + 1)) = .ok rest,
      fun H2 h2 => ⟨ds.length - (i + 1), by omega, rfl, h2⟩, fun x H2 y => ?_⟩
    obtain ⟨F2, x2, r2⟩ := ok.yld F' H' i ds[i] x H2 (List.getElem?_eq_getElem hlt) xe.sF xe.sub y
    have x12 := xe.trans x2
    refine ⟨σ, wipeE Γ vs, F2, ds[i], Γ1, enW.step x12, r2, hg1, fun σ3 en3 => ⟨en3.pre, ?_⟩⟩
    refine ⟨σ, Γ1, F2, en3, ?_⟩
    rcases hcase with ⟨hm, yv, hy, hoo⟩ | ⟨hm, hoo⟩
    · rw [hm]
      refine post_ok fun F4 H4 x4 => ?_
      refine iteT ⟨σ, Γ1, F4, en3.step x4, ?_⟩
      rw [hy]
      refine post_ok fun F5 H5 x5 v rv => ?_
      have x15 := (x12.trans x4).trans x5
      have g1 : H5 D = some (.lst acc) := x5.sH _ _ (x4.sH _ _ (x2.sH _ _ hDl))
      have g2 : F5 D = none := x5.sep _ _ (x4.sH _ _ (x2.sH _ _ hDl)) (x4.sep _ _ (x2.sH _ _ hDl) (x2.sep _ _ hDl hDF))
      refine ⟨acc, g1, ?_, hlt, F5, acc ++ [v], ads ++ [yv], r, ?_, upd_same, g2, (((hr.mono x2.sF).mono x4.sF).mono x5.sF).append (.cons rv .nil), by simp; omega, ?_, hc2⟩
      · rw [hr.length, sizeLine_eq]; omega
      · exact ⟨x15.sF, fun b q e => by rw [upd_ne (ne_of_none e hD)]; exact x15.sH b q e, fun b q e => by rw [upd_ne (ne_of_none e g2)]; exact x15.sub b q e, x15.sep⟩
      · rw [hre, hrr, hoo]; simp
    · rw [hm]
      refine post_ok fun F4 H4 x4 => ?_
      have hDl4 := x4.sH _ _ (x2.sH _ _ hDl)
      have hDF4 := x4.sep _ _ (x2.sH _ _ hDl) (x2.sep _ _ hDl hDF)
      refine iteF ⟨hlt, F4, acc, ads, r, x12.trans x4, hDl4, hDF4, (hr.mono x2.sF).mono x4.sF, by omega, ?_, hc2⟩
      rw [hre, hrr, hoo]
  · have e : i = ds.length := by omega
    subst e
    rw [List.drop_length] at hcl
    cases hcl
    refine .inl ⟨ok.stop F' H' xe.sF xe.sub, ?_⟩
    rw [List.append_nil] at hre
    subst hre
    exact p1 F' H' xe D acc (x1.sH.free hD) hDl hDF hr
/-- what is asked of a block's parts -/
def BGo (X : Cx) (C : Cg) (vs : List Nat) (scope : Scope) (tg : Expr) (mg : Env → D → Option Env) : Prop := ∀ (σ : St) (s : Shared) (H : Hp) (A : Addr) (cl : List (Str × Addr)) (fp : List Addr), ∃ g, FG (X.blk s H scope (compEnvC scope cl A X.env) fp) (cgW C vs σ) tg g mg
def BTo (X : Cx) (C : Cg) (vs : List Nat) (scope : Scope) (ifs : List Expr) (mt : Env → R Bool) : Prop := ∀ (σ : St) (s : Shared) (H : Hp) (A : Addr) (cl : List (Str × Addr)) (fp : List Addr), ∃ t, FTs (X.blk s H scope (compEnvC scope cl A X.env) fp) (cgW C vs σ) ifs t mt
def BEo (X : Cx) (C : Cg) (vs : List Nat) (scope : Scope) (elt : Expr) (me : Env → R D) : Prop := ∀ (σ : St) (s : Shared) (H : Hp) (A : Addr) (cl : List (Str × Addr)) (fp : List Addr), ∃ t, FE (X.blk s H scope (compEnvC scope cl A X.env) fp) (cgW C vs σ) elt t me
theorem BGo.pg (h : BGo X C vs scope tg mg) (s : Shared) (H : Hp) (A : Addr) (cl : List (Str × Addr)) (fp : List Addr) : PG (X.blk s H scope (compEnvC scope cl A X.env) fp) tg (tgCan (cgW C vs) mg) := by
  obtain ⟨g0, hg0⟩ := h [] s H A cl fp
  refine ⟨fun pins s' σ H' v u Q I r q => ?_⟩
  obtain ⟨σ0, Γ, F, d, Γ', en, rp, hm, k⟩ := q
  obtain ⟨g, hg⟩ := h σ0 s H A cl fp
  exact hg.pg.run pins s' σ H' v u Q I r (hg.rd Γ σ F H' d v Γ' Q en rp hm k)
theorem BTo.pt (h : BTo X C vs scope ifs mt) (s : Shared) (H : Hp) (A : Addr) (cl : List (Str × Addr)) (fp : List Addr) : PTs (X.blk s H scope (compEnvC scope cl A X.env) fp) ifs (ttCan (cgW C vs) mt) := by
  refine ⟨fun pins s' σ H' Q I q => ?_⟩
  obtain ⟨σ0, Γ, F, en, p⟩ := q
  obtain ⟨t, ht⟩ := h σ0 s H A cl fp
  exact ht.pt.run pins s' σ H' Q I (ht.rd Γ σ F H' Q en p)
theorem BEo.pe (h : BEo X C vs scope elt me) (s : Shared) (H : Hp) (A : Addr) (cl : List (Str × Addr)) (fp : List Addr) : PE (X.blk s H scope (compEnvC scope cl A X.env) fp) elt (tCan (cgW C vs) me) := by
  refine ⟨fun pins s' σ H' Q I q => ?_⟩
  obtain ⟨σ0, Γ, F, en, p⟩ := q
  obtain ⟨t, ht⟩ := h σ0 s H A cl fp
  exact ht.pe.run pins s' σ H' Q I (ht.rd Γ σ F H' Q en p)
theorem fl_comp {pos : Pos} (own : List (Str × Nat)) (hc : X.calm = true) (hN : X.N.Nodup) (hi : FI X C tg iter wi mi) (ok : BlkOk X.N X.env.scope scope own)
    (hg : BGo X C vs scope tg mg) (ht : BTo X C vs scope ifs mt) (he : BEo X C vs scope elt me) (hs : ∀ x, foldedSetIterable iter X.env x = pure x := by intro _; rfl) (hvs : own.map (·.2) = vs := by rfl) :
    FL X C (.ListComp elt [⟨tg, iter, ifs, 0⟩] scope pos) (tLc wi (tgCan (cgW C vs) mg) (ttCan (cgW C vs) mt) (tCan (cgW C vs) me) vs) (mComp vs mi mg mt me) := by
  subst hvs
  exact ⟨pe_lc hc hN hi.pi ok hg.pg ht.pt he.pe hs, comp_rd hi⟩
/-- y = [..], the name a local: y's own list; a settled one -/
theorem fs_setLcL {i : Nat} {y : Str} {py pos spos : Pos} (own : List (Str × Nat)) (k : Keeps C i) (hc : X.calm = true) (hN : X.N.Nodup) (hy : X.N[i]? = some y) (hyl : X.env.scope.names.lookup y = some .local)
    (hsw : swapsWith (.ListComp elt [⟨tg, iter, ifs, 0⟩] scope pos) (some (.Name y py)) spos.line X.env = pure true) (hi : FI X C tg iter wi mi) (ok : BlkOk X.N X.env.scope scope own)
    (hg : BGo X C vs scope tg mg) (ht : BTo X C vs scope ifs mt) (he : BEo X C vs scope elt me) (hs : ∀ x, foldedSetIterable iter X.env x = pure x := by intro _; rfl) (hvs : own.map (·.2) = vs := by rfl) :
    FS X C (.Assign [.Name y py] (.ListComp elt [⟨tg, iter, ifs, 0⟩] scope pos) spos) (tAsg (tLc wi (tgCan (cgW C vs) mg) (ttCan (cgW C vs) mt) (tCan (cgW C vs) me) vs) (gName i)) (mAsgL i (mComp vs mi mg mt me)) := by
  subst hvs
  exact ⟨ps_setLc hc hN hy hyl hsw hi.pi ok hg.pg ht.pt he.pe hs, asgL_rd k (comp_rd hi)⟩
theorem fs_setLc {i : Nat} {y : Str} {py pos spos : Pos} (own : List (Str × Nat)) (k : Keeps C i) (hc : X.calm = true) (hN : X.N.Nodup) (hy : X.N[i]? = some y) (hyl : X.env.scope.names.lookup y = some .local)
    (hsw : swapsWith (.ListComp elt [⟨tg, iter, ifs, 0⟩] scope pos) (some (.Name y py)) spos.line X.env = pure true) (hi : FI X C tg iter wi mi) (ok : BlkOk X.N X.env.scope scope own)
    (hg : BGo X C vs scope tg mg) (ht : BTo X C vs scope ifs mt) (he : BEo X C vs scope elt me) (hs : ∀ x, foldedSetIterable iter X.env x = pure x := by intro _; rfl) (hvs : own.map (·.2) = vs := by rfl) :
    FS X C (.Assign [.Name y py] (.ListComp elt [⟨tg, iter, ifs, 0⟩] scope pos) spos) (tAsg (tLc wi (tgCan (cgW C vs) mg) (ttCan (cgW C vs) mt) (tCan (cgW C vs) me) vs) (gName i)) (mAsg i (mLe (mComp vs mi mg mt me))) := by
  subst hvs
  exact ⟨ps_setLc hc hN hy hyl hsw hi.pi ok hg.pg ht.pt he.pe hs, asg_rd k fun Γ σ F H Q e p => comp_rd hi Γ σ F H Q e (by
    revert p
    show Post C (WE C.W σ) F H (mComp (own.map (·.2)) mi mg mt me Γ >>= fun x => pure (.lst x)) (kV C Q) → _
    cases mComp (own.map (·.2)) mi mg mt me Γ with
    | ok ds => exact fun p F' H' x q xs n hp nF r => p _ _ (x.settle n nF hp) _ (.lst upd_same (r.mono (same_upd nF)))
    | exc n d => exact id
    | stuck => exact id)⟩
end
end
/-! reckoned -/
theorem mComp_ev {Γ : Env} (vs : List Nat) (mi : Env → R (List D)) (g : Env → D → Option Env) (mt : Env → R Bool) (me : Env → R D) : mComp vs mi g mt me Γ = (mi Γ >>= fun ds => if ds.length < 16777216 then compL (turnC g mt me (wipeE Γ vs)) ds else .stuck) := rfl
theorem compL_map {t : D → R (Option D)} (f : D → D) : ∀ {ds : List D}, (∀ d ∈ ds, t d = .ok (some (f d))) → compL t ds = .ok (ds.map f)
  | [], _ => rfl
  | d :: ds, h => by
    unfold compL
    rw [h d (List.mem_cons_self ..), compL_map f fun e he => h e (List.mem_cons_of_mem _ he)]
    rfl
theorem compL_filterMap {t : D → R (Option D)} (f : D → Option D) : ∀ {ds : List D}, (∀ d ∈ ds, t d = .ok (f d)) → compL t ds = .ok (ds.filterMap f)
  | [], _ => rfl
  | d :: ds, h => by
    unfold compL
    rw [h d (List.mem_cons_self ..), compL_filterMap f fun e he => h e (List.mem_cons_of_mem _ he), List.filterMap_cons]
    cases f d <;> rfl
/-- of a list made by a map -/
theorem compL_of {α : Type} {t : D → R (Option D)} {g : α → D} (f : α → D) : ∀ {xs : List α}, (∀ x ∈ xs, t (g x) = .ok (some (f x))) → compL t (xs.map g) = .ok (xs.map f)
  | [], _ => rfl
  | d :: ds, h => by
    show (t (g d) >>= _) = _
    rw [h d (List.mem_cons_self ..)]
    show (compL t (ds.map g) >>= _) = _
    rw [compL_of f fun e he => h e (List.mem_cons_of_mem _ he)]
    rfl
theorem turnC_some {g : Env → D → Option Env} {mt : Env → R Bool} {me : Env → R D} {Γ Γ1 : Env} {d y : D} (h : g Γ d = some Γ1) (h1 : mt Γ1 = .ok true) (h2 : me Γ1 = .ok y) : turnC g mt me Γ d = .ok (some y) := by
  unfold turnC
  rw [h]
  show noX (mt Γ1 >>= _) = _
  rw [h1]
  show noX (me Γ1 >>= _) = _
  rw [h2]; rfl
theorem turnC_no {g : Env → D → Option Env} {mt : Env → R Bool} {me : Env → R D} {Γ Γ1 : Env} {d : D} (h : g Γ d = some Γ1) (h1 : mt Γ1 = .ok false) : turnC g mt me Γ d = .ok none := by
  unfold turnC
  rw [h]
  show noX (mt Γ1 >>= _) = _
  rw [h1]; rfl
theorem wipeE_nil {Γ : Env} : wipeE Γ [] = Γ := rfl
theorem wipeE_cons {Γ : Env} {v : Nat} {vs : List Nat} : wipeE Γ (v :: vs) = (wipeE Γ vs).set v .no := rfl
theorem mYes_ev {Γ : Env} : mYes Γ = .ok true := rfl

/-! ### chains -/
def mCh (g g' : D → D → R D) (ma mb mc : Env → R D) : Env → R D := fun Γ => ma Γ >>= fun x => mb Γ >>= fun y => g x y >>= fun z => asB z >>= fun k => if k = true then mc Γ >>= fun w => g' y w else .ok (.bl false)
theorem mCh_ev {Γ : Env} (g g' : D → D → R D) (ma mb mc : Env → R D) : mCh g g' ma mb mc Γ = (ma Γ >>= fun x => mb Γ >>= fun y => g x y >>= fun z => asB z >>= fun k => if k = true then mc Γ >>= fun w => g' y w else .ok (.bl false)) := rfl
section
variable {X : Cx} {C : Cg} {a b c : Expr} {ta tb tc : TE} {ma mb mc : Env → R D} {pos : Pos} {op op' : CmpOp} {r r' : R2} {g g' : D → D → R D}
theorem chain_rd (hs : OpS C r g) (hs' : OpS C r' g') (ha : FR X C a ta ma) (hb : FR X C b tb mb) (hc : FR X C c tc mc) : ∀ Γ σ F H Q, EnvOk C Γ σ F H → Post C (WE C.W σ) F H (mCh g g' ma mb mc Γ) (kV C Q) → tChain r r' ta tb tc σ H Q := fun Γ σ F H Q e p =>
  ha.rd Γ σ F H _ e (Post.bind p fun x F1 H1 x1 p1 v1 r1 => hb.rd Γ σ F1 H1 _ (e.step x1) (Post.bind p1 fun y F2 H2 x2 p2 v2 r2 => hs x y v1 v2 F2 H2 (WE C.W σ) _ x2.sub (r1.ext x2) r2 (Post.bind p2 fun z F3 H3 x3 p3 v3 r3 => by
    cases r3 with
    | bl k =>
      refine ⟨k, rfl, ?_⟩
      have p4 : Post C (WE C.W σ) F3 H3 (if k = true then mc Γ >>= fun w => g' y w else .ok (.bl false)) (kV C Q) := p3
      cases k with
      | true =>
        rw [if_pos rfl] at p4
        rw [if_pos rfl]
        exact hc.rd Γ σ F3 H3 _ (((e.step x1).step x2).step x3) (Post.bind p4 fun w F4 H4 x4 p5 v4 r4 => hs' y w v2 v4 F4 H4 (WE C.W σ) Q x4.sub ((r2.ext x3).ext x4) r4 p5)
      | false =>
        rw [if_neg Bool.false_ne_true] at p4
        rw [if_neg Bool.false_ne_true]
        exact p4 F3 H3 (Ext.refl x3.sub) _ (.bl false)
    | _ => exact p3.elim)))
theorem fe_chain (ho : OpR X (compareOp op) r) (hs : OpS C r g) (ho' : OpR X (compareOp op') r') (hs' : OpS C r' g') (ha : FR X C a ta ma) (hb : FR X C b tb mb) (hc : FR X C c tc mc) (hm : lastMarks [op, op'] [b, c] = false := by with_unfolding_all rfl) :
    FE X C (.Compare a [op, op'] [b, c] pos) (tChain r r' ta tb tc) (mCh g g' ma mb mc) := ⟨pe_chain ho ho' ha.pe hb.pe hc.pe hm, chain_rd hs hs' ha hb hc⟩
theorem ft_chain (ho : OpR X (compareOp op) r) (hs : OpS C r g) (ho' : OpR X (compareOp op') r') (hs' : OpS C r' g') (ha : FR X C a ta ma) (hb : FR X C b tb mb) (hc : FR X C c tc mc) (hm : lastMarks [op, op'] [b, c] = false := by with_unfolding_all rfl) :
    FT X C (.Compare a [op, op'] [b, c] pos) (tTest (tChain r r' ta tb tc)) (mT (mCh g g' ma mb mc)) := ⟨pt_chain ho ho' ha.pe hb.pe hc.pe hm, tB_rd (chain_rd hs hs' ha hb hc)⟩
end
end FL

set_option Elab.async false
set_option linter.all false
set_option maxRecDepth 100000
set_option maxHeartbeats 2000000
/-! FL, part 11: methods of texts, built-ins over lists. -/
namespace FL
open PySem PySem.Spec PyProof.Rows L2
set_option autoImplicit false
def onStr {α : Type} (x : D) (k : List Nat → R α) : R α := match x with
  | .str a => k a
  | _ => .stuck
theorem onStr_str {α : Type} (a : List Nat) (k : List Nat → R α) : onStr (.str a) k = k a := rfl
def mMeth {α : Type} (g : List Nat → List D → R α) (mo : Env → R D) (ma : Env → R (List D)) : Env → R α := fun Γ => mo Γ >>= fun x => onStr x fun a => ma Γ >>= fun xs => g a xs
theorem mMeth_ev {α : Type} {Γ : Env} (g : List Nat → List D → R α) (mo : Env → R D) (ma : Env → R (List D)) : mMeth g mo ma Γ = (mo Γ >>= fun x => onStr x fun a => ma Γ >>= fun xs => g a xs) := rfl
def SM (C : Cg) (r : V → List V → Hp → VK → Prop) (g : List Nat → List D → R D) : Prop := ∀ (a : List Nat) (ds : List D) (vs : List V) (F H : Hp) (E : XK) (Q : VK), Same F H → okS a → RepRs C F H ds vs → Post C E F H (g a ds) (kV C Q) → r (.str (mk a)) vs H Q
def SML (C : Cg) (r : V → List V → Hp → VK → Prop) (g : List Nat → List D → R (List D)) : Prop := ∀ (a : List Nat) (ds : List D) (vs : List V) (F H : Hp) (E : XK) (Q : VK), Same F H → okS a → RepRs C F H ds vs → Post C E F H (g a ds) (kL C H Q) → r (.str (mk a)) vs H Q
section
variable {X : Cx} {C : Cg} {o e : Expr} {es : List Expr} {to : TE} {t : TA} {mo : Env → R D} {ma : Env → R (List D)} {name : Str} {apos cpos : Pos} {id : String} {r : V → List V → Hp → VK → Prop} {g : List Nat → List D → R D} {gL : List Nat → List D → R (List D)}
theorem meth_rd (hs : SM C r g) (ho : FE X C o to mo) (ha : FB X C es t ma) : ∀ Γ σ F H Q, EnvOk C Γ σ F H → Post C (WE C.W σ) F H (mMeth g mo ma Γ) (kV C Q) → tBM X.K "str" r to t σ H Q := fun Γ σ F H Q en p =>
  ho.rd Γ σ F H _ en (Post.bind p fun x F1 H1 x1 p1 v r1 => by
    cases r1 with
    | str a ok => exact ⟨rfl, ha.rd Γ σ F1 H1 _ (en.step x1) (Post.bind (show Post C (WE C.W σ) F1 H1 (ma Γ >>= fun xs => g a xs) (kV C Q) from p1) fun xs F2 H2 x2 p2 vs rs => hs a xs vs F2 H2 _ Q x2.sub ok rs p2)⟩
    | _ => exact p1.elim)
theorem meth_rd0 (hs : SM C r g) (ho : FE X C o to mo) : ∀ Γ σ F H Q, EnvOk C Γ σ F H → Post C (WE C.W σ) F H (mMeth g mo mNil Γ) (kV C Q) → tBM0 X.K "str" r to σ H Q := fun Γ σ F H Q en p =>
  ho.rd Γ σ F H _ en (Post.bind p fun x F1 H1 x1 p1 v r1 => by
    cases r1 with
    | str a ok => exact ⟨rfl, hs a [] [] F1 H1 _ Q x1.sub ok .nil p1⟩
    | _ => exact p1.elim)
theorem meth_rdL (hs : SML C r gL) (ho : FE X C o to mo) (ha : FB X C es t ma) : ∀ Γ σ F H Q, EnvOk C Γ σ F H → Post C (WE C.W σ) F H (mMeth gL mo ma Γ) (kL C H Q) → tBM X.K "str" r to t σ H Q := fun Γ σ F H Q en p =>
  ho.rd Γ σ F H _ en (Post.bind p fun x F1 H1 x1 p1 v r1 => by
    cases r1 with
    | str a ok => exact ⟨rfl, ha.rd Γ σ F1 H1 _ (en.step x1) (Post.bind (show Post C (WE C.W σ) F1 H1 (ma Γ >>= fun xs => gL a xs) (kL C H Q) from p1) fun xs F2 H2 x2 p2 vs rs => hs a xs vs F2 H2 (WE C.W σ) Q x2.sub ok rs (p2.imp fun ds F3 H3 x3 q => kL_step (x1.sH.trans x2.sH) q))⟩
    | _ => exact p1.elim)
theorem fe_meth (slot : PySem.Slot "str" name id) (hty : typeOf (.builtin id) = pure (.type "method_descriptor")) (hm : MtR X id r) (hs : SM C r g) (ho : FE X C o to mo) (ha : FB X C (e :: es) t ma)
    (hbase : attributeBase o name X.env (eval o X.env) = eval o X.env := by rfl)
    (hfew : ((backTo cpos (starEach (e :: es) X.env)).all (fun x => !x.1) && (backToKw cpos (keywordEach [] X.env)).all (fun x => x.1.isSome)
      && decide ((e :: es).length + ([] : List Keyword).length + (if ([] : List Keyword).isEmpty then 0 else 1) < 30)) = true := by rfl)
    (hline : (apos.endLine == cpos.line) = true := by rfl) (hst : starEach (e :: es) X.env = (false, eval e X.env) :: starEach es X.env := by rfl) (hplain : (backTo cpos (starEach es X.env)).any (·.1) = false := by rfl) :
    FE X C (.Call (.Attribute o name apos) (e :: es) [] cpos) (tBM X.K "str" r to t) (mMeth g mo ma) := ⟨pe_bm PySem.F.plainAttrs_str slot hty hm ho.pe ha.pa hbase hfew hline hst hplain, meth_rd hs ho ha⟩
theorem fl_meth (slot : PySem.Slot "str" name id) (hty : typeOf (.builtin id) = pure (.type "method_descriptor")) (hm : MtR X id r) (hs : SML C r gL) (ho : FE X C o to mo) (ha : FB X C (e :: es) t ma)
    (hbase : attributeBase o name X.env (eval o X.env) = eval o X.env := by rfl)
    (hfew : ((backTo cpos (starEach (e :: es) X.env)).all (fun x => !x.1) && (backToKw cpos (keywordEach [] X.env)).all (fun x => x.1.isSome)
      && decide ((e :: es).length + ([] : List Keyword).length + (if ([] : List Keyword).isEmpty then 0 else 1) < 30)) = true := by rfl)
    (hline : (apos.endLine == cpos.line) = true := by rfl) (hst : starEach (e :: es) X.env = (false, eval e X.env) :: starEach es X.env := by rfl) (hplain : (backTo cpos (starEach es X.env)).any (·.1) = false := by rfl) :
    FL X C (.Call (.Attribute o name apos) (e :: es) [] cpos) (tBM X.K "str" r to t) (mMeth gL mo ma) := ⟨pe_bm PySem.F.plainAttrs_str slot hty hm ho.pe ha.pa hbase hfew hline hst hplain, meth_rdL hs ho ha⟩
theorem fe_meth0 (slot : PySem.Slot "str" name id) (hty : typeOf (.builtin id) = pure (.type "method_descriptor")) (hm : MtR X id r) (hs : SM C r g) (ho : FE X C o to mo)
    (hbase : attributeBase o name X.env (eval o X.env) = eval o X.env := by rfl) (hline : (apos.endLine == cpos.line) = true := by rfl) : FE X C (.Call (.Attribute o name apos) [] [] cpos) (tBM0 X.K "str" r to) (mMeth g mo mNil) :=
  ⟨pe_bm0 PySem.F.plainAttrs_str slot hty hm ho.pe hbase hline, meth_rd0 hs ho⟩
end
section
variable {C : Cg} {F H : Hp} {b : List Nat} {i j : Int} {vs : List V}
theorem args_s (rs : RepRs C F H [.str b] vs) : vs = [.str (mk b)] ∧ okS b := by
  cases rs with
  | cons r rs => cases rs; obtain ⟨e, o⟩ := r.str; exact ⟨by rw [e], o⟩
theorem args_si (rs : RepRs C F H [.str b, .int i] vs) : vs = [.str (mk b), .int i] ∧ okS b := by
  cases rs with
  | cons r rs => cases rs with
    | cons r2 rs => cases rs; obtain ⟨e, o⟩ := r.str; exact ⟨by rw [e, r2.int], o⟩
theorem args_ss {c : List Nat} (rs : RepRs C F H [.str b, .str c] vs) : vs = [.str (mk b), .str (mk c)] ∧ okS b ∧ okS c := by
  cases rs with
  | cons r rs => cases rs with
    | cons r2 rs => cases rs; obtain ⟨e, o⟩ := r.str; obtain ⟨e2, o2⟩ := r2.str; exact ⟨by rw [e, e2], o, o2⟩
theorem args_sij (rs : RepRs C F H [.str b, .int i, .int j] vs) : vs = [.str (mk b), .int i, .int j] ∧ okS b := by
  cases rs with
  | cons r rs => cases rs with
    | cons r2 rs => cases rs with
      | cons r3 rs => cases rs; obtain ⟨e, o⟩ := r.str; exact ⟨by rw [e, r2.int, r3.int], o⟩
theorem args_i (rs : RepRs C F H [.int i] vs) : vs = [.int i] := one_int rs
theorem args_n (rs : RepRs C F H [] vs) : vs = [] := by cases rs; rfl
end
/-- a text that a method tells, its signs looked at -/
def outS (s : Str) : R D := if (s.cps.toList.all fun c => decide (c < 1114112)) = true then .ok (.str s.cps.toList) else .stuck
theorem outS_ok {s : Str} {l : List Nat} (e : s = mk l) (h : okS l) : outS s = .ok (.str l) := by
  unfold outS
  rw [e, mk_list, if_pos]
  exact List.all_eq_true.mpr fun c hc => decide_eq_true (h c hc)
theorem outS_post {C : Cg} {E : XK} {F H : Hp} {Q : VK} {s : Str} (sb : Same F H) (p : Post C E F H (outS s) (kV C Q)) : Q (.str s) H := by
  unfold outS at p
  split at p
  · rename_i h
    have := p F H (Ext.refl sb) (.str (mk s.cps.toList)) (.str _ (okS_of h))
    rw [mk_of] at this
    exact this
  · exact p.elim

def g_find (a : List Nat) : List D → R D
  | [.str b] => .ok (.int (Txt.find (mk a) (mk b)))
  | _ => .stuck
theorem sm_find {C : Cg} : SM C (fun x xs H Q => ∃ a b, x = .str a ∧ xs = [.str b] ∧ Q (.int (Txt.find a b)) H) g_find := fun a ds vs F H E Q s o rs p => by
  unfold g_find at p
  split at p
  · obtain ⟨e, _⟩ := args_s rs
    subst e
    exact ⟨_, _, rfl, rfl, p F H (Ext.refl s) _ (.int _)⟩
  · exact p.elim
theorem g_find_ev (a b : List Nat) : g_find a [.str b] = .ok (.int (Txt.find (mk a) (mk b))) := rfl
def g_find3 (a : List Nat) : List D → R D
  | [.str b, .int i] => .ok (.int (Txt.find3 (mk a) (mk b) i))
  | _ => .stuck
theorem sm_find3 {C : Cg} : SM C (fun x xs H Q => ∃ (a b : Str) (i : Int), x = .str a ∧ xs = [.str b, .int i] ∧ Q (.int (Txt.find3 a b i)) H) g_find3 := fun a ds vs F H E Q s o rs p => by
  unfold g_find3 at p
  split at p
  · obtain ⟨e, _⟩ := args_si rs
    subst e
    exact ⟨_, _, _, rfl, rfl, p F H (Ext.refl s) _ (.int _)⟩
  · exact p.elim
theorem g_find3_ev (a b : List Nat) (i : Int) : g_find3 a [.str b, .int i] = .ok (.int (Txt.find3 (mk a) (mk b) i)) := rfl
def g_find4 (a : List Nat) : List D → R D
  | [.str b, .int i, .int j] => .ok (.int (Txt.findIn (mk a) (mk b) i j))
  | _ => .stuck
theorem sm_find4 {C : Cg} : SM C (fun x xs H Q => ∃ (a b : Str) (i j : Int), x = .str a ∧ xs = [.str b, .int i, .int j] ∧ Q (.int (Txt.findIn a b i j)) H) g_find4 := fun a ds vs F H E Q s o rs p => by
  unfold g_find4 at p
  split at p
  · obtain ⟨e, _⟩ := args_sij rs
    subst e
    exact ⟨_, _, _, _, rfl, rfl, p F H (Ext.refl s) _ (.int _)⟩
  · exact p.elim
theorem g_find4_ev (a b : List Nat) (i j : Int) : g_find4 a [.str b, .int i, .int j] = .ok (.int (Txt.findIn (mk a) (mk b) i j)) := rfl
def g_rfind (a : List Nat) : List D → R D
  | [.str b] => .ok (.int (Txt.rfind (mk a) (mk b)))
  | _ => .stuck
theorem sm_rfind {C : Cg} : SM C (fun x xs H Q => ∃ a b, x = .str a ∧ xs = [.str b] ∧ Q (.int (Txt.rfind a b)) H) g_rfind := fun a ds vs F H E Q s o rs p => by
  unfold g_rfind at p
  split at p
  · obtain ⟨e, _⟩ := args_s rs
    subst e
    exact ⟨_, _, rfl, rfl, p F H (Ext.refl s) _ (.int _)⟩
  · exact p.elim
theorem g_rfind_ev (a b : List Nat) : g_rfind a [.str b] = .ok (.int (Txt.rfind (mk a) (mk b))) := rfl
def g_rfind4 (a : List Nat) : List D → R D
  | [.str b, .int i, .int j] => .ok (.int (Txt.rfindIn (mk a) (mk b) i j))
  | _ => .stuck
theorem sm_rfind4 {C : Cg} : SM C (fun x xs H Q => ∃ (a b : Str) (i j : Int), x = .str a ∧ xs = [.str b, .int i, .int j] ∧ Q (.int (Txt.rfindIn a b i j)) H) g_rfind4 := fun a ds vs F H E Q s o rs p => by
  unfold g_rfind4 at p
  split at p
  · obtain ⟨e, _⟩ := args_sij rs
    subst e
    exact ⟨_, _, _, _, rfl, rfl, p F H (Ext.refl s) _ (.int _)⟩
  · exact p.elim
theorem g_rfind4_ev (a b : List Nat) (i j : Int) : g_rfind4 a [.str b, .int i, .int j] = .ok (.int (Txt.rfindIn (mk a) (mk b) i j)) := rfl
def g_count (a : List Nat) : List D → R D
  | [.str b] => .ok (.int (Txt.count (mk a) (mk b)))
  | _ => .stuck
theorem sm_count {C : Cg} : SM C (fun x xs H Q => ∃ a b, x = .str a ∧ xs = [.str b] ∧ Q (.int (Txt.count a b)) H) g_count := fun a ds vs F H E Q s o rs p => by
  unfold g_count at p
  split at p
  · obtain ⟨e, _⟩ := args_s rs
    subst e
    exact ⟨_, _, rfl, rfl, p F H (Ext.refl s) _ (.int _)⟩
  · exact p.elim
theorem g_count_ev (a b : List Nat) : g_count a [.str b] = .ok (.int (Txt.count (mk a) (mk b))) := rfl
def g_count3 (a : List Nat) : List D → R D
  | [.str b, .int i] => .ok (.int (Txt.count3 (mk a) (mk b) i))
  | _ => .stuck
theorem sm_count3 {C : Cg} : SM C (fun x xs H Q => ∃ (a b : Str) (i : Int), x = .str a ∧ xs = [.str b, .int i] ∧ Q (.int (Txt.count3 a b i)) H) g_count3 := fun a ds vs F H E Q s o rs p => by
  unfold g_count3 at p
  split at p
  · obtain ⟨e, _⟩ := args_si rs
    subst e
    exact ⟨_, _, _, rfl, rfl, p F H (Ext.refl s) _ (.int _)⟩
  · exact p.elim
theorem g_count3_ev (a b : List Nat) (i : Int) : g_count3 a [.str b, .int i] = .ok (.int (Txt.count3 (mk a) (mk b) i)) := rfl
def g_count4 (a : List Nat) : List D → R D
  | [.str b, .int i, .int j] => .ok (.int (Txt.countIn (mk a) (mk b) i j))
  | _ => .stuck
theorem sm_count4 {C : Cg} : SM C (fun x xs H Q => ∃ (a b : Str) (i j : Int), x = .str a ∧ xs = [.str b, .int i, .int j] ∧ Q (.int (Txt.countIn a b i j)) H) g_count4 := fun a ds vs F H E Q s o rs p => by
  unfold g_count4 at p
  split at p
  · obtain ⟨e, _⟩ := args_sij rs
    subst e
    exact ⟨_, _, _, _, rfl, rfl, p F H (Ext.refl s) _ (.int _)⟩
  · exact p.elim
theorem g_count4_ev (a b : List Nat) (i j : Int) : g_count4 a [.str b, .int i, .int j] = .ok (.int (Txt.countIn (mk a) (mk b) i j)) := rfl
def g_startswith (a : List Nat) : List D → R D
  | [.str b] => .ok (.bl (Txt.startswith (mk a) (mk b)))
  | _ => .stuck
theorem sm_startswith {C : Cg} : SM C (fun x xs H Q => ∃ a b, x = .str a ∧ xs = [.str b] ∧ Q (.bl (Txt.startswith a b)) H) g_startswith := fun a ds vs F H E Q s o rs p => by
  unfold g_startswith at p
  split at p
  · obtain ⟨e, _⟩ := args_s rs
    subst e
    exact ⟨_, _, rfl, rfl, p F H (Ext.refl s) _ (.bl _)⟩
  · exact p.elim
theorem g_startswith_ev (a b : List Nat) : g_startswith a [.str b] = .ok (.bl (Txt.startswith (mk a) (mk b))) := rfl
def g_startswith3 (a : List Nat) : List D → R D
  | [.str b, .int i] => .ok (.bl (Txt.startswith3 (mk a) (mk b) i))
  | _ => .stuck
theorem sm_startswith3 {C : Cg} : SM C (fun x xs H Q => ∃ (a b : Str) (i : Int), x = .str a ∧ xs = [.str b, .int i] ∧ Q (.bl (Txt.startswith3 a b i)) H) g_startswith3 := fun a ds vs F H E Q s o rs p => by
  unfold g_startswith3 at p
  split at p
  · obtain ⟨e, _⟩ := args_si rs
    subst e
    exact ⟨_, _, _, rfl, rfl, p F H (Ext.refl s) _ (.bl _)⟩
  · exact p.elim
theorem g_startswith3_ev (a b : List Nat) (i : Int) : g_startswith3 a [.str b, .int i] = .ok (.bl (Txt.startswith3 (mk a) (mk b) i)) := rfl
def g_endswith (a : List Nat) : List D → R D
  | [.str b] => .ok (.bl (Txt.endswith (mk a) (mk b)))
  | _ => .stuck
theorem sm_endswith {C : Cg} : SM C (fun x xs H Q => ∃ a b, x = .str a ∧ xs = [.str b] ∧ Q (.bl (Txt.endswith a b)) H) g_endswith := fun a ds vs F H E Q s o rs p => by
  unfold g_endswith at p
  split at p
  · obtain ⟨e, _⟩ := args_s rs
    subst e
    exact ⟨_, _, rfl, rfl, p F H (Ext.refl s) _ (.bl _)⟩
  · exact p.elim
theorem g_endswith_ev (a b : List Nat) : g_endswith a [.str b] = .ok (.bl (Txt.endswith (mk a) (mk b))) := rfl
def g_isdigit (a : List Nat) : List D → R D
  | [] => .ok (.bl (Txt.isdigit (mk a)))
  | _ => .stuck
theorem sm_isdigit {C : Cg} : SM C (fun x xs H Q => ∃ a, x = .str a ∧ xs = [] ∧ True ∧ Q (.bl (Txt.isdigit a)) H) g_isdigit := fun a ds vs F H E Q s o rs p => by
  unfold g_isdigit at p
  split at p
  · have e := args_n rs
    subst e
    exact ⟨_, rfl, rfl, trivial, p F H (Ext.refl s) _ (.bl _)⟩
  · exact p.elim
theorem g_isdigit_ev (a : List Nat) : g_isdigit a [] = .ok (.bl (Txt.isdigit (mk a))) := rfl
def g_isalpha (a : List Nat) : List D → R D
  | [] => .ok (.bl (Txt.isalpha (mk a)))
  | _ => .stuck
theorem sm_isalpha {C : Cg} : SM C (fun x xs H Q => ∃ a, x = .str a ∧ xs = [] ∧ True ∧ Q (.bl (Txt.isalpha a)) H) g_isalpha := fun a ds vs F H E Q s o rs p => by
  unfold g_isalpha at p
  split at p
  · have e := args_n rs
    subst e
    exact ⟨_, rfl, rfl, trivial, p F H (Ext.refl s) _ (.bl _)⟩
  · exact p.elim
theorem g_isalpha_ev (a : List Nat) : g_isalpha a [] = .ok (.bl (Txt.isalpha (mk a))) := rfl
def g_isalnum (a : List Nat) : List D → R D
  | [] => .ok (.bl (Txt.isalnum (mk a)))
  | _ => .stuck
theorem sm_isalnum {C : Cg} : SM C (fun x xs H Q => ∃ a, x = .str a ∧ xs = [] ∧ True ∧ Q (.bl (Txt.isalnum a)) H) g_isalnum := fun a ds vs F H E Q s o rs p => by
  unfold g_isalnum at p
  split at p
  · have e := args_n rs
    subst e
    exact ⟨_, rfl, rfl, trivial, p F H (Ext.refl s) _ (.bl _)⟩
  · exact p.elim
theorem g_isalnum_ev (a : List Nat) : g_isalnum a [] = .ok (.bl (Txt.isalnum (mk a))) := rfl
def g_isspace (a : List Nat) : List D → R D
  | [] => .ok (.bl (Txt.isspace (mk a)))
  | _ => .stuck
theorem sm_isspace {C : Cg} : SM C (fun x xs H Q => ∃ a, x = .str a ∧ xs = [] ∧ True ∧ Q (.bl (Txt.isspace a)) H) g_isspace := fun a ds vs F H E Q s o rs p => by
  unfold g_isspace at p
  split at p
  · have e := args_n rs
    subst e
    exact ⟨_, rfl, rfl, trivial, p F H (Ext.refl s) _ (.bl _)⟩
  · exact p.elim
theorem g_isspace_ev (a : List Nat) : g_isspace a [] = .ok (.bl (Txt.isspace (mk a))) := rfl
def g_strip (a : List Nat) : List D → R D
  | [] => if a.length ≤ 16777216 then outS (Txt.strip (mk a)) else .stuck
  | _ => .stuck
theorem sm_strip {C : Cg} : SM C (fun x xs H Q => ∃ a, x = .str a ∧ xs = [] ∧ a.length ≤ sizeLine ∧ Q (.str (Txt.strip a)) H) g_strip := fun a ds vs F H E Q s o rs p => by
  unfold g_strip at p
  split at p
  · split at p
    · rename_i hl
      have e := args_n rs
      subst e
      exact ⟨_, rfl, rfl, by rw [mk_len]; rw [sizeLine_eq]; exact hl, outS_post s p⟩
    · exact p.elim
  · exact p.elim
theorem g_strip_ev (a : List Nat) (h : a.length ≤ 16777216) : g_strip a [] = outS (Txt.strip (mk a)) := if_pos h
def g_lstrip (a : List Nat) : List D → R D
  | [] => if a.length ≤ 16777216 then outS (Txt.lstrip (mk a)) else .stuck
  | _ => .stuck
theorem sm_lstrip {C : Cg} : SM C (fun x xs H Q => ∃ a, x = .str a ∧ xs = [] ∧ a.length ≤ sizeLine ∧ Q (.str (Txt.lstrip a)) H) g_lstrip := fun a ds vs F H E Q s o rs p => by
  unfold g_lstrip at p
  split at p
  · split at p
    · rename_i hl
      have e := args_n rs
      subst e
      exact ⟨_, rfl, rfl, by rw [mk_len]; rw [sizeLine_eq]; exact hl, outS_post s p⟩
    · exact p.elim
  · exact p.elim
theorem g_lstrip_ev (a : List Nat) (h : a.length ≤ 16777216) : g_lstrip a [] = outS (Txt.lstrip (mk a)) := if_pos h
def g_rstrip (a : List Nat) : List D → R D
  | [] => if a.length ≤ 16777216 then outS (Txt.rstrip (mk a)) else .stuck
  | _ => .stuck
theorem sm_rstrip {C : Cg} : SM C (fun x xs H Q => ∃ a, x = .str a ∧ xs = [] ∧ a.length ≤ sizeLine ∧ Q (.str (Txt.rstrip a)) H) g_rstrip := fun a ds vs F H E Q s o rs p => by
  unfold g_rstrip at p
  split at p
  · split at p
    · rename_i hl
      have e := args_n rs
      subst e
      exact ⟨_, rfl, rfl, by rw [mk_len]; rw [sizeLine_eq]; exact hl, outS_post s p⟩
    · exact p.elim
  · exact p.elim
theorem g_rstrip_ev (a : List Nat) (h : a.length ≤ 16777216) : g_rstrip a [] = outS (Txt.rstrip (mk a)) := if_pos h
def g_lower (a : List Nat) : List D → R D
  | [] => if a.length ≤ 5592405 then outS (Txt.lower (mk a)) else .stuck
  | _ => .stuck
theorem sm_lower {C : Cg} : SM C (fun x xs H Q => ∃ a, x = .str a ∧ xs = [] ∧ a.length ≤ 5592405 ∧ Q (.str (Txt.lower a)) H) g_lower := fun a ds vs F H E Q s o rs p => by
  unfold g_lower at p
  split at p
  · split at p
    · rename_i hl
      have e := args_n rs
      subst e
      exact ⟨_, rfl, rfl, by rw [mk_len]; exact hl, outS_post s p⟩
    · exact p.elim
  · exact p.elim
theorem g_lower_ev (a : List Nat) (h : a.length ≤ 5592405) : g_lower a [] = outS (Txt.lower (mk a)) := if_pos h
def g_upper (a : List Nat) : List D → R D
  | [] => if a.length ≤ 5592405 then outS (Txt.upper (mk a)) else .stuck
  | _ => .stuck
theorem sm_upper {C : Cg} : SM C (fun x xs H Q => ∃ a, x = .str a ∧ xs = [] ∧ a.length ≤ 5592405 ∧ Q (.str (Txt.upper a)) H) g_upper := fun a ds vs F H E Q s o rs p => by
  unfold g_upper at p
  split at p
  · split at p
    · rename_i hl
      have e := args_n rs
      subst e
      exact ⟨_, rfl, rfl, by rw [mk_len]; exact hl, outS_post s p⟩
    · exact p.elim
  · exact p.elim
theorem g_upper_ev (a : List Nat) (h : a.length ≤ 5592405) : g_upper a [] = outS (Txt.upper (mk a)) := if_pos h
def g_stripChars (a : List Nat) : List D → R D
  | [.str b] => if a.length ≤ 16777216 then outS (Txt.stripChars (mk a) (mk b)) else .stuck
  | _ => .stuck
theorem sm_stripChars {C : Cg} : SM C (fun x xs H Q => ∃ a b, x = .str a ∧ xs = [.str b] ∧ a.length ≤ sizeLine ∧ Q (.str (Txt.stripChars a b)) H) g_stripChars := fun a ds vs F H E Q s o rs p => by
  unfold g_stripChars at p
  split at p
  · split at p
    · rename_i hl
      obtain ⟨e, _⟩ := args_s rs
      subst e
      exact ⟨_, _, rfl, rfl, by rw [mk_len, sizeLine_eq]; exact hl, outS_post s p⟩
    · exact p.elim
  · exact p.elim
theorem g_stripChars_ev (a b : List Nat) (h : a.length ≤ 16777216) : g_stripChars a [.str b] = outS (Txt.stripChars (mk a) (mk b)) := if_pos h
def g_lstripChars (a : List Nat) : List D → R D
  | [.str b] => if a.length ≤ 16777216 then outS (Txt.lstripChars (mk a) (mk b)) else .stuck
  | _ => .stuck
theorem sm_lstripChars {C : Cg} : SM C (fun x xs H Q => ∃ a b, x = .str a ∧ xs = [.str b] ∧ a.length ≤ sizeLine ∧ Q (.str (Txt.lstripChars a b)) H) g_lstripChars := fun a ds vs F H E Q s o rs p => by
  unfold g_lstripChars at p
  split at p
  · split at p
    · rename_i hl
      obtain ⟨e, _⟩ := args_s rs
      subst e
      exact ⟨_, _, rfl, rfl, by rw [mk_len, sizeLine_eq]; exact hl, outS_post s p⟩
    · exact p.elim
  · exact p.elim
theorem g_lstripChars_ev (a b : List Nat) (h : a.length ≤ 16777216) : g_lstripChars a [.str b] = outS (Txt.lstripChars (mk a) (mk b)) := if_pos h
def g_rstripChars (a : List Nat) : List D → R D
  | [.str b] => if a.length ≤ 16777216 then outS (Txt.rstripChars (mk a) (mk b)) else .stuck
  | _ => .stuck
theorem sm_rstripChars {C : Cg} : SM C (fun x xs H Q => ∃ a b, x = .str a ∧ xs = [.str b] ∧ a.length ≤ sizeLine ∧ Q (.str (Txt.rstripChars a b)) H) g_rstripChars := fun a ds vs F H E Q s o rs p => by
  unfold g_rstripChars at p
  split at p
  · split at p
    · rename_i hl
      obtain ⟨e, _⟩ := args_s rs
      subst e
      exact ⟨_, _, rfl, rfl, by rw [mk_len, sizeLine_eq]; exact hl, outS_post s p⟩
    · exact p.elim
  · exact p.elim
theorem g_rstripChars_ev (a b : List Nat) (h : a.length ≤ 16777216) : g_rstripChars a [.str b] = outS (Txt.rstripChars (mk a) (mk b)) := if_pos h
def g_removeprefix (a : List Nat) : List D → R D
  | [.str b] => if a.length ≤ 16777216 then outS (Txt.removeprefix (mk a) (mk b)) else .stuck
  | _ => .stuck
theorem sm_removeprefix {C : Cg} : SM C (fun x xs H Q => ∃ a b, x = .str a ∧ xs = [.str b] ∧ a.length ≤ sizeLine ∧ Q (.str (Txt.removeprefix a b)) H) g_removeprefix := fun a ds vs F H E Q s o rs p => by
  unfold g_removeprefix at p
  split at p
  · split at p
    · rename_i hl
      obtain ⟨e, _⟩ := args_s rs
      subst e
      exact ⟨_, _, rfl, rfl, by rw [mk_len, sizeLine_eq]; exact hl, outS_post s p⟩
    · exact p.elim
  · exact p.elim
theorem g_removeprefix_ev (a b : List Nat) (h : a.length ≤ 16777216) : g_removeprefix a [.str b] = outS (Txt.removeprefix (mk a) (mk b)) := if_pos h
def g_removesuffix (a : List Nat) : List D → R D
  | [.str b] => if a.length ≤ 16777216 then outS (Txt.removesuffix (mk a) (mk b)) else .stuck
  | _ => .stuck
theorem sm_removesuffix {C : Cg} : SM C (fun x xs H Q => ∃ a b, x = .str a ∧ xs = [.str b] ∧ a.length ≤ sizeLine ∧ Q (.str (Txt.removesuffix a b)) H) g_removesuffix := fun a ds vs F H E Q s o rs p => by
  unfold g_removesuffix at p
  split at p
  · split at p
    · rename_i hl
      obtain ⟨e, _⟩ := args_s rs
      subst e
      exact ⟨_, _, rfl, rfl, by rw [mk_len, sizeLine_eq]; exact hl, outS_post s p⟩
    · exact p.elim
  · exact p.elim
theorem g_removesuffix_ev (a b : List Nat) (h : a.length ≤ 16777216) : g_removesuffix a [.str b] = outS (Txt.removesuffix (mk a) (mk b)) := if_pos h
/-! ### join -/
def strsOf : List D → Option (List (List Nat))
  | [] => some []
  | .str s :: ds => (strsOf ds).map (s :: ·)
  | _ :: _ => none
def sumLen (xs : List (List Nat)) : Nat := (xs.map List.length).sum
def g_join (a : List Nat) : List D → R D
  | [.lst ds] => (match strsOf ds with
      | some xs => if sumLen xs + xs.length * a.length ≤ 16777216 then .ok (.str (TL.joinL a xs)) else .stuck
      | none => .stuck)
  | [.tup ds] => (match strsOf ds with
      | some xs => if sumLen xs + xs.length * a.length ≤ 16777216 then .ok (.str (TL.joinL a xs)) else .stuck
      | none => .stuck)
  | _ => .stuck
theorem strsOf_map (xs : List (List Nat)) : strsOf (xs.map D.str) = some xs := by
  induction xs with
  | nil => rfl
  | cons x xs ih =>
    show (strsOf (xs.map D.str)).map (x :: ·) = _
    rw [ih]; rfl
theorem strs_reps {K : PySem.W.Frag} {mg : Str → Option Value} {F : Hp} : ∀ {ds : List D} {vs : List V} {xs : List (List Nat)}, Reps K mg F ds vs → strsOf ds = some xs → vs = (xs.map mk).map V.str ∧ ∀ x ∈ xs, okS x
  | _, _, _, .nil, h => by cases h; exact ⟨rfl, fun x hx => by cases hx⟩
  | _, _, _, .cons r rs, h => by
    cases r with
    | str s o =>
      obtain ⟨ys, h1, h2⟩ := Option.map_eq_some_iff.mp (show (strsOf _).map (s :: ·) = some _ from h)
      obtain ⟨e, q⟩ := strs_reps rs h1
      subst h2
      exact ⟨by rw [e]; rfl, fun x hx => by
        rcases List.mem_cons.mp hx with h | h
        · subst h; exact o
        · exact q x h⟩
    | _ => cases h
theorem joinL_mem {S : List Nat} {c : Nat} : ∀ {xs : List (List Nat)}, c ∈ TL.joinL S xs → c ∈ S ∨ ∃ x ∈ xs, c ∈ x
  | [], h => by cases h
  | [x], h => .inr ⟨x, List.mem_singleton.mpr rfl, h⟩
  | x :: y :: r, h => by
    have h' : c ∈ x ++ (S ++ TL.joinL S (y :: r)) := by simpa [TL.joinL] using h
    rcases List.mem_append.mp h' with h1 | h1
    · exact .inr ⟨x, List.mem_cons_self .., h1⟩
    · rcases List.mem_append.mp h1 with h2 | h2
      · exact .inl h2
      · rcases joinL_mem h2 with h3 | ⟨z, h3, h4⟩
        · exact .inl h3
        · exact .inr ⟨z, List.mem_cons_of_mem _ h3, h4⟩
theorem okS_joinL {S : List Nat} (o : okS S) {xs : List (List Nat)} (h : ∀ x ∈ xs, okS x) : okS (TL.joinL S xs) := fun c hc => by
  rcases joinL_mem hc with h1 | ⟨x, h1, h2⟩
  · exact o c h1
  · exact h x h1 c h2
theorem join_mk (a : List Nat) (xs : List (List Nat)) : Txt.join (mk a) (xs.map mk) = mk (TL.joinL a xs) := by
  rw [TL.join_eq]
  have h := TL.tl_join (mk a) (xs.map mk)
  have e1 : TL.tl (mk a) = a := mk_list a
  have e2 : (xs.map mk).map TL.tl = xs := by
    rw [List.map_map]
    have : ∀ x ∈ xs, (TL.tl ∘ mk) x = id x := fun x _ => mk_list x
    rw [List.map_congr_left this, List.map_id]
  rw [e1, e2] at h
  rw [← mk_of (Str.join (mk a) (xs.map mk))]
  exact congrArg mk h
theorem sum_mk (xs : List (List Nat)) : ((xs.map mk).map (·.length)).sum = sumLen xs := by
  unfold sumLen
  rw [List.map_map]
  congr 1
theorem sm_join {C : Cg} : SM C (fun x xs H Q => ∃ a p, ∃ ys : List Str, x = .str a ∧ xs = [.ref p] ∧ (SqL C.K H p (ys.map V.str) ∨ SqT C.K H p (ys.map V.str)) ∧
    (ys.map (·.length)).sum + ys.length * a.length ≤ 16777216 ∧ Q (.str (Txt.join a ys)) H) g_join := fun a ds vs F H E Q s o rs p => by
  unfold g_join at p
  split at p
  · split at p
    · rename_i xs hx
      split at p
      · rename_i hz
        cases rs with
        | cons r rs =>
          cases rs
          obtain ⟨q, vs, rfl, h1, q1⟩ := r.lst s
          obtain ⟨e, q2⟩ := strs_reps q1 hx
          subst e
          refine ⟨_, q, xs.map mk, rfl, rfl, .inl (.inl (.inl h1)), by rw [sum_mk, List.length_map, mk_len]; exact hz, ?_⟩
          rw [join_mk]
          exact p F H (Ext.refl s) _ (.str _ (okS_joinL o q2))
      · exact p.elim
    · exact p.elim
  · split at p
    · rename_i xs hx
      split at p
      · rename_i hz
        cases rs with
        | cons r rs =>
          cases rs
          obtain ⟨q, vs, rfl, h1, q1⟩ := r.tup s
          obtain ⟨e, q2⟩ := strs_reps q1 hx
          subst e
          refine ⟨_, q, xs.map mk, rfl, rfl, .inr h1, by rw [sum_mk, List.length_map, mk_len]; exact hz, ?_⟩
          rw [join_mk]
          exact p F H (Ext.refl s) _ (.str _ (okS_joinL o q2))
      · exact p.elim
    · exact p.elim
  · exact p.elim
theorem g_join_ev (a : List Nat) (xs : List (List Nat)) (h : sumLen xs + xs.length * a.length ≤ 16777216) : g_join a [.lst (xs.map D.str)] = .ok (.str (TL.joinL a xs)) := by
  show (match strsOf (xs.map D.str) with | some xs => if sumLen xs + xs.length * a.length ≤ 16777216 then R.ok (D.str (TL.joinL a xs)) else .stuck | none => .stuck) = _
  rw [strsOf_map]
  exact if_pos h
theorem joinL_nil : ∀ xs : List (List Nat), TL.joinL [] xs = xs.flatten
  | [] => rfl
  | [x] => by simp [TL.joinL]
  | x :: y :: r => by
    show x ++ ([] ++ TL.joinL [] (y :: r)) = _
    rw [joinL_nil (y :: r)]; simp
/-! ### split -/
def outL : List Str → R (List D)
  | [] => .ok []
  | s :: r => outS s >>= fun d => outL r >>= fun ds => .ok (d :: ds)
def g_split (a : List Nat) : List D → R (List D)
  | [.str b] => if b ≠ [] ∧ a.length + 2 ≤ 16777216 then outL (Txt.split (mk a) (mk b)) else .stuck
  | _ => .stuck
theorem outL_ok : ∀ {ss : List Str} {ds : List D}, outL ss = .ok ds → ∀ (K : PySem.W.Frag) (mg : Str → Option Value) (F : Hp), Reps K mg F ds (ss.map V.str)
  | [], _, h, _, _, _ => by cases h; exact .nil
  | s :: r, ds, h, K, mg, F => by
    have h' : (outS s >>= fun d => outL r >>= fun ds => R.ok (d :: ds)) = .ok ds := h
    unfold outS at h'
    split at h'
    · rename_i ho
      have h2 : (outL r >>= fun ds => R.ok (D.str s.cps.toList :: ds)) = .ok ds := h'
      cases e : outL r with
      | ok es =>
        rw [e] at h2
        cases h2
        have q := Rep.str (K := K) (mg := mg) (F := F) _ (okS_of ho)
        rw [mk_of] at q
        exact .cons q (outL_ok e K mg F)
      | exc n d => rw [e] at h2; cases h2
      | stuck => rw [e] at h2; cases h2
    · cases h'
theorem outL_noX : ∀ ss : List Str, (∃ ds, outL ss = .ok ds) ∨ outL ss = .stuck
  | [] => .inl ⟨_, rfl⟩
  | s :: r => by
    show (∃ ds, (outS s >>= fun d => outL r >>= fun ds => R.ok (d :: ds)) = .ok ds) ∨ (outS s >>= fun d => outL r >>= fun ds => R.ok (d :: ds)) = .stuck
    unfold outS
    split
    · rcases outL_noX r with ⟨ds, e⟩ | e
      · rw [e]; exact .inl ⟨_, rfl⟩
      · rw [e]; exact .inr rfl
    · exact .inr rfl
theorem sm_split {C : Cg} : SML C (fun x xs H Q => ∃ a b, x = .str a ∧ xs = [.str b] ∧ (b.length == 0) = false ∧ a.length + 2 ≤ sizeLine ∧ rNewStrs (Txt.split a b) H Q) g_split := fun a ds vs F H E Q s o rs p => by
  unfold g_split at p
  split at p
  · split at p
    · rename_i b hb
      obtain ⟨e, _⟩ := args_s rs
      subst e
      refine ⟨_, _, rfl, rfl, ?_, by rw [mk_len, sizeLine_eq]; exact hb.2, fun q nq => ?_⟩
      · rw [mk_len]
        exact beq_eq_false_iff_ne.mpr fun z => hb.1 (List.length_eq_zero_iff.mp z)
      · rcases outL_noX (Txt.split (mk a) (mk b)) with ⟨ds, e⟩ | e
        · rw [e] at p
          exact p F _ (Ext.raw s nq) q _ nq upd_same (sub_none s nq) (outL_ok e _ _ _)
        · rw [e] at p; exact p.elim
    · exact p.elim
  · exact p.elim
/-! ### replace -/

end FL

set_option Elab.async false
set_option linter.all false
set_option maxRecDepth 100000
set_option maxHeartbeats 2000000
/-! FL, part 12: more built-ins; raise. -/
namespace FL
open PySem PySem.Spec PyProof.Rows L2
set_option autoImplicit false
/-! ### int(..) of an int, a truth, a text; str(int); ord -/
def gInt : List D → R D
  | [.int i] => .ok (.int i)
  | [.bl k] => .ok (.int (if k then 1 else 0))
  | [.str a] => (match PySem.intText? (mk a) with
      | some n => if a.length ≤ 640 then .ok (.int n) else .stuck
      | none => .stuck)
  | _ => .stuck
def rIntA : List V → Hp → VK → Prop := fun xs H Q => ((∃ i, xs = [.int i] ∧ Q (.int i) H) ∨ ∃ k, xs = [.bl k] ∧ Q (.int (if k then 1 else 0)) H) ∨ (∃ a n, xs = [.str a] ∧ PySem.intText? a = some n ∧ a.length ≤ 640 ∧ Q (.int n) H)
theorem call_intA {X : Cx} : CallR X (.type "int") rIntA := call_int1.or call_int_str
section
variable {C : Cg} {F H : Hp} {vs : List V}
theorem one_bl {k : Bool} (rs : RepRs C F H [.bl k] vs) : vs = [.bl k] := by
  cases rs with
  | cons r rs => cases rs; rw [r.bl]
theorem cs_int : CallS C rIntA gInt := fun ds vs F H E Q s rs p => by
  unfold gInt at p
  split at p
  · exact .inl (.inl ⟨_, one_int rs, p F H (Ext.refl s) _ (.int _)⟩)
  · exact .inl (.inr ⟨_, one_bl rs, p F H (Ext.refl s) _ (.int _)⟩)
  · split at p
    · split at p
      · rename_i hn hl
        obtain ⟨e, _⟩ := args_s rs
        exact .inr ⟨_, _, e, hn, by rw [mk_len]; exact hl, p F H (Ext.refl s) _ (.int _)⟩
      · exact p.elim
    · exact p.elim
  · exact p.elim
def gStr : List D → R D
  | [.int i] => if i.natAbs.log2 < 1920 then outS (Str.ofString (toString i)) else .stuck
  | _ => .stuck
theorem cs_strI : CallS C (fun xs H Q => ∃ i : Int, xs = [.int i] ∧ i.natAbs.log2 < 1920 ∧ Q (.str (Str.ofString (toString i))) H) gStr := fun ds vs F H E Q s rs p => by
  unfold gStr at p
  split at p
  · split at p
    · rename_i hl
      exact ⟨_, one_int rs, hl, outS_post s p⟩
    · exact p.elim
  · exact p.elim
def gOrd : List D → R D
  | [.str [c]] => .ok (.int (c : Nat))
  | _ => .stuck
theorem cs_ord : CallS C (fun xs H Q => ∃ x : Str, xs = [.str x] ∧ x.length = 1 ∧ Q (.int (x.cps.getD 0 0 : Nat)) H) gOrd := fun ds vs F H E Q s rs p => by
  unfold gOrd at p
  split at p
  · rename_i c
    obtain ⟨e, _⟩ := args_s rs
    exact ⟨_, e, rfl, p F H (Ext.refl s) _ (.int _)⟩
  · exact p.elim
end
theorem lt_str' (a b : List Nat) : D.lt (.str a) (.str b) = .ok (.bl (decide (a < b))) := rfl
theorem le_str' (a b : List Nat) : D.le (.str a) (.str b) = .ok (.bl (!decide (b < a))) := rfl
theorem gt_str' (a b : List Nat) : D.gt (.str a) (.str b) = .ok (.bl (decide (b < a))) := rfl
theorem ge_str' (a b : List Nat) : D.ge (.str a) (.str b) = .ok (.bl (!decide (a < b))) := rfl
theorem int_int (i : Int) : gInt [.int i] = .ok (.int i) := rfl
theorem int_bl (k : Bool) : gInt [.bl k] = .ok (.int (if k = true then 1 else 0)) := rfl
theorem ord_one (c : Nat) : gOrd [.str [c]] = .ok (.int c) := rfl
/-! ### sum, all, any, max, min of a list -/
def intsOf : List D → Option (List Int)
  | [] => some []
  | .int i :: ds => (intsOf ds).map (i :: ·)
  | _ :: _ => none
def blsOf : List D → Option (List Bool)
  | [] => some []
  | .bl i :: ds => (blsOf ds).map (i :: ·)
  | _ :: _ => none
theorem intsOf_map (xs : List Int) : intsOf (xs.map D.int) = some xs := by
  induction xs with
  | nil => rfl
  | cons x xs ih =>
    show (intsOf (xs.map D.int)).map (x :: ·) = _
    rw [ih]; rfl
theorem blsOf_map (xs : List Bool) : blsOf (xs.map D.bl) = some xs := by
  induction xs with
  | nil => rfl
  | cons x xs ih =>
    show (blsOf (xs.map D.bl)).map (x :: ·) = _
    rw [ih]; rfl
theorem ints_reps {K : PySem.W.Frag} {mg : Str → Option Value} {F : Hp} : ∀ {ds : List D} {vs : List V} {xs : List Int}, Reps K mg F ds vs → intsOf ds = some xs → vs = xs.map V.int
  | _, _, _, .nil, h => by cases h; rfl
  | _, _, _, .cons r rs, h => by
    cases r with
    | int s =>
      obtain ⟨ys, h1, h2⟩ := Option.map_eq_some_iff.mp (show (intsOf _).map (s :: ·) = some _ from h)
      rw [ints_reps rs h1, ← h2]; rfl
    | _ => cases h
theorem bls_reps {K : PySem.W.Frag} {mg : Str → Option Value} {F : Hp} : ∀ {ds : List D} {vs : List V} {xs : List Bool}, Reps K mg F ds vs → blsOf ds = some xs → vs = xs.map V.bl
  | _, _, _, .nil, h => by cases h; rfl
  | _, _, _, .cons r rs, h => by
    cases r with
    | bl s =>
      obtain ⟨ys, h1, h2⟩ := Option.map_eq_some_iff.mp (show (blsOf _).map (s :: ·) = some _ from h)
      rw [bls_reps rs h1, ← h2]; rfl
    | _ => cases h
def onInts (k : List Int → R D) : List D → R D
  | [.lst ds] => (match intsOf ds with
      | some ns => k ns
      | none => .stuck)
  | _ => .stuck
def onBls (k : List Bool → R D) : List D → R D
  | [.lst ds] => (match blsOf ds with
      | some ns => k ns
      | none => .stuck)
  | _ => .stuck
theorem onInts_map (k : List Int → R D) (xs : List Int) : onInts k [.lst (xs.map D.int)] = k xs := by
  show (match intsOf (xs.map D.int) with | some ns => k ns | none => .stuck) = _
  rw [intsOf_map]
theorem onBls_map (k : List Bool → R D) (xs : List Bool) : onBls k [.lst (xs.map D.bl)] = k xs := by
  show (match blsOf (xs.map D.bl) with | some ns => k ns | none => .stuck) = _
  rw [blsOf_map]
def gSum : List D → R D := onInts fun ns => .ok (.int ns.sum)
def gAll : List D → R D := onBls fun bs => .ok (.bl (bs.all id))
def gAny : List D → R D := onBls fun bs => .ok (.bl (bs.any id))
def maxL : List Int → Int
  | [] => 0
  | [a] => a
  | a :: b :: r => max a (maxL (b :: r))
def minL : List Int → Int
  | [] => 0
  | [a] => a
  | a :: b :: r => min a (minL (b :: r))
theorem maxL_mem : ∀ {ns : List Int}, ns ≠ [] → maxL ns ∈ ns ∧ ∀ y ∈ ns, y ≤ maxL ns
  | [], h => absurd rfl h
  | [a], _ => ⟨List.mem_singleton.mpr rfl, fun y hy => by rw [List.mem_singleton.mp hy]; exact Int.le_refl _⟩
  | a :: b :: r, _ => by
    obtain ⟨h1, h2⟩ := maxL_mem (ns := b :: r) (by simp)
    show max a (maxL (b :: r)) ∈ _ ∧ ∀ y ∈ _, y ≤ max a (maxL (b :: r))
    constructor
    · by_cases h : a ≤ maxL (b :: r)
      · rw [Int.max_eq_right h]; exact List.mem_cons_of_mem _ h1
      · rw [Int.max_eq_left (by omega)]; exact List.mem_cons_self ..
    · intro y hy
      rcases List.mem_cons.mp hy with h | h
      · subst h; exact Int.le_max_left _ _
      · exact Int.le_trans (h2 y h) (Int.le_max_right _ _)
theorem minL_mem : ∀ {ns : List Int}, ns ≠ [] → minL ns ∈ ns ∧ ∀ y ∈ ns, minL ns ≤ y
  | [], h => absurd rfl h
  | [a], _ => ⟨List.mem_singleton.mpr rfl, fun y hy => by rw [List.mem_singleton.mp hy]; exact Int.le_refl _⟩
  | a :: b :: r, _ => by
    obtain ⟨h1, h2⟩ := minL_mem (ns := b :: r) (by simp)
    show min a (minL (b :: r)) ∈ _ ∧ ∀ y ∈ _, min a (minL (b :: r)) ≤ y
    constructor
    · by_cases h : minL (b :: r) ≤ a
      · rw [Int.min_eq_right h]; exact List.mem_cons_of_mem _ h1
      · rw [Int.min_eq_left (by omega)]; exact List.mem_cons_self ..
    · intro y hy
      rcases List.mem_cons.mp hy with h | h
      · subst h; exact Int.min_le_left _ _
      · exact Int.le_trans (Int.min_le_right _ _) (h2 y h)
def gMaxL : List D → R D := onInts fun ns => if ns ≠ [] then .ok (.int (maxL ns)) else .stuck
def gMinL : List D → R D := onInts fun ns => if ns ≠ [] then .ok (.int (minL ns)) else .stuck
section
variable {C : Cg}
theorem onInts_rd {k : List Int → R D} {ds : List D} {vs : List V} {F H : Hp} {E : XK} {Q : VK} (s : Same F H) (rs : RepRs C F H ds vs) (p : Post C E F H (onInts k ds) (kV C Q)) : ∃ a ns, vs = [V.ref a] ∧ SqL C.K H a (ns.map V.int) ∧ Post C E F H (k ns) (kV C Q) := by
  unfold onInts at p
  split at p
  · split at p
    · rename_i ns hn
      cases rs with
      | cons r rs =>
        cases rs
        obtain ⟨q, xs, rfl, h1, q1⟩ := r.lst s
        have e := ints_reps q1 hn
        subst e
        exact ⟨q, ns, rfl, .inl (.inl h1), p⟩
    · exact p.elim
  · exact p.elim
theorem onBls_rd {k : List Bool → R D} {ds : List D} {vs : List V} {F H : Hp} {E : XK} {Q : VK} (s : Same F H) (rs : RepRs C F H ds vs) (p : Post C E F H (onBls k ds) (kV C Q)) : ∃ a ns, vs = [V.ref a] ∧ SqL C.K H a (ns.map V.bl) ∧ Post C E F H (k ns) (kV C Q) := by
  unfold onBls at p
  split at p
  · split at p
    · rename_i ns hn
      cases rs with
      | cons r rs =>
        cases rs
        obtain ⟨q, xs, rfl, h1, q1⟩ := r.lst s
        have e := bls_reps q1 hn
        subst e
        exact ⟨q, ns, rfl, .inl (.inl h1), p⟩
    · exact p.elim
  · exact p.elim
theorem cs_sum : CallS C (rSum C.K) gSum := fun ds vs F H E Q s rs p => by
  obtain ⟨a, ns, e, h, q⟩ := onInts_rd s rs p
  exact ⟨a, ns, e, h, q F H (Ext.refl s) _ (.int _)⟩
theorem cs_all : CallS C (rAll C.K) gAll := fun ds vs F H E Q s rs p => by
  obtain ⟨a, ns, e, h, q⟩ := onBls_rd s rs p
  exact ⟨a, ns, e, h, q F H (Ext.refl s) _ (.bl _)⟩
theorem cs_any : CallS C (rAny C.K) gAny := fun ds vs F H E Q s rs p => by
  obtain ⟨a, ns, e, h, q⟩ := onBls_rd s rs p
  exact ⟨a, ns, e, h, q F H (Ext.refl s) _ (.bl _)⟩
theorem cs_maxL : CallS C (rMax C.K) gMaxL := fun ds vs F H E Q s rs p => by
  obtain ⟨a, ns, e, h, q⟩ := onInts_rd s rs p
  split at q
  · rename_i hn
    refine ⟨a, ns, e, h, List.length_pos_iff.mpr hn, fun m h1 h2 => ?_⟩
    obtain ⟨g1, g2⟩ := maxL_mem hn
    have e2 : m = maxL ns := Int.le_antisymm (g2 m h1) (h2 _ g1)
    rw [e2]
    exact q F H (Ext.refl s) _ (.int _)
  · exact q.elim
theorem cs_minL : CallS C (rMin C.K) gMinL := fun ds vs F H E Q s rs p => by
  obtain ⟨a, ns, e, h, q⟩ := onInts_rd s rs p
  split at q
  · rename_i hn
    refine ⟨a, ns, e, h, List.length_pos_iff.mpr hn, fun m h1 h2 => ?_⟩
    obtain ⟨g1, g2⟩ := minL_mem hn
    have e2 : m = minL ns := Int.le_antisymm (h2 _ g1) (g2 m h1)
    rw [e2]
    exact q F H (Ext.refl s) _ (.int _)
  · exact q.elim
end
theorem sum_ints (xs : List Int) : gSum [.lst (xs.map D.int)] = .ok (.int xs.sum) := onInts_map _ _
theorem all_bls (xs : List Bool) : gAll [.lst (xs.map D.bl)] = .ok (.bl (xs.all id)) := onBls_map _ _
theorem any_bls (xs : List Bool) : gAny [.lst (xs.map D.bl)] = .ok (.bl (xs.any id)) := onBls_map _ _
theorem maxL_ints (xs : List Int) (h : xs ≠ []) : gMaxL [.lst (xs.map D.int)] = .ok (.int (maxL xs)) := (onInts_map _ _).trans (if_pos h)
theorem minL_ints (xs : List Int) (h : xs ≠ []) : gMinL [.lst (xs.map D.int)] = .ok (.int (minL xs)) := (onInts_map _ _).trans (if_pos h)
/-! ### list(..), sorted(..): new lists -/
def CallSL (C : Cg) (r : List V → Hp → VK → Prop) (g : List D → R (List D)) : Prop := ∀ (ds : List D) (vs : List V) (F H : Hp) (E : XK) (Q : VK), Same F H → RepRs C F H ds vs → Post C E F H (g ds) (kL C H Q) → r vs H Q
section
variable {X : Cx} {C : Cg} {x : Str} {id T : String} {p pos : Pos} {e : Expr} {es : List Expr} {t : TA} {m : Env → R (List D)} {r : List V → Hp → VK → Prop} {g : List D → R (List D)}
theorem cb_rdL (hs : CallSL C r g) (ha : FB X C es t m) : ∀ Γ σ F H Q, EnvOk C Γ σ F H → Post C (WE C.W σ) F H (mCall g m Γ) (kL C H Q) → tCB r t σ H Q := fun Γ σ F H Q en q =>
  ha.rd Γ σ F H _ en (Post.bind q fun ds F1 H1 x1 p1 vs rs => hs ds vs F1 H1 (WE C.W σ) Q x1.sub rs (p1.imp fun ds F2 H2 x2 q2 => kL_step x1.sH q2))
theorem fl_callB (hc : CallR X (.builtin id) r) (hs : CallSL C r g) (hg : Gl X x) (hm : X.mg x = none) (hv : bootBuiltins x = some (.builtin id)) (ha : FB X C (e :: es) t m) (hn : x ≠ "__name__" := by decide) (hdb : (x == ("__debug__" : Str)) = false := by decide)
    (he : starEach (e :: es) X.env = (false, eval e X.env) :: starEach es X.env := by rfl) (hpl : (backTo pos (starEach es X.env)).any (·.1) = false := by rfl) : FL X C (.Call (.Name x p) (e :: es) [] pos) (tCB r t) (mCall g m) :=
  ⟨pe_callB hc hg hm hv ha.pa hn hdb he hpl, cb_rdL hs ha⟩
theorem fl_callTy (hc : CallR X (.type T) r) (hs : CallSL C r g) (hg : Gl X x) (hm : X.mg x = none) (hv : bootBuiltins x = some (.type T)) (ha : FB X C (e :: es) t m) (hn : x ≠ "__name__" := by decide) (hdb : (x == ("__debug__" : Str)) = false := by decide)
    (he : starEach (e :: es) X.env = (false, eval e X.env) :: starEach es X.env := by rfl) (hpl : (backTo pos (starEach es X.env)).any (·.1) = false := by rfl) : FL X C (.Call (.Name x p) (e :: es) [] pos) (tCB r t) (mCall g m) :=
  ⟨pe_callTy hc hg hm hv ha.pa hn hdb he hpl, cb_rdL hs ha⟩
def gList : List D → R (List D)
  | [.lst ds] => .ok ds
  | [.tup ds] => .ok ds
  | [.scr ns] => .ok (ns.map .int)
  | _ => .stuck
theorem cs_list : CallSL C (fun xs H Q => ∃ p ys, xs = [.ref p] ∧ (SqL C.K H p ys ∨ SqT C.K H p ys) ∧ ∀ l, H l = none → Q (.ref l) (upd H l (.lst ys))) gList := fun ds vs F H E Q s rs p => by
  unfold gList at p
  split at p
  · cases rs with
    | cons r rs =>
      cases rs
      obtain ⟨q, xs, rfl, h1, q1⟩ := r.lst s
      exact ⟨q, xs, rfl, .inl (.inl (.inl h1)), fun z nz => p F _ (Ext.raw s nz) z _ nz upd_same (sub_none s nz) q1⟩
  · cases rs with
    | cons r rs =>
      cases rs
      obtain ⟨q, xs, rfl, h1, q1⟩ := r.tup s
      exact ⟨q, xs, rfl, .inr h1, fun z nz => p F _ (Ext.raw s nz) z _ nz upd_same (sub_none s nz) q1⟩
  · cases rs with
    | cons r rs =>
      cases rs
      obtain ⟨q, rfl, h1⟩ := r.scr s
      exact ⟨q, _, rfl, .inl h1, fun z nz => p F _ (Ext.raw s nz) z _ nz upd_same (sub_none s nz) reps_ints⟩
  · exact p.elim
theorem list_lst (ds : List D) : gList [.lst ds] = .ok ds := rfl
theorem list_tup (ds : List D) : gList [.tup ds] = .ok ds := rfl
theorem list_scr (ns : List Int) : gList [.scr ns] = .ok (ns.map .int) := rfl
/-- ints in order -/
def srtI (ns : List Int) : List Int := ns.mergeSort (fun a b => decide (a ≤ b))
theorem srtI_perm (ns : List Int) : (srtI ns).Perm ns := List.mergeSort_perm ns _
theorem srtI_le (ns : List Int) : (srtI ns).Pairwise (· ≤ ·) := by
  have h := List.pairwise_mergeSort (le := fun a b : Int => decide (a ≤ b)) (fun a b c h1 h2 => by simp at h1 h2 ⊢; omega) (fun a b => by simp; omega) ns
  exact h.imp fun h => of_decide_eq_true h
theorem perm_srt {xs ys : List Int} (h : xs.Perm ys) (hx : xs.Pairwise (· ≤ ·)) (hy : ys.Pairwise (· ≤ ·)) : xs = ys :=
  h.eq_of_pairwise (le := (· ≤ ·)) (fun a b _ _ h1 h2 => Int.le_antisymm h1 h2) hx hy
def gSorted : List D → R (List D)
  | [.lst ds] => (match intsOf ds with
      | some ns => .ok ((srtI ns).map .int)
      | none => .stuck)
  | _ => .stuck
theorem cs_sorted : CallSL C (rSortedI C.K) gSorted := fun ds vs F H E Q s rs p => by
  unfold gSorted at p
  split at p
  · split at p
    · rename_i ns hn
      cases rs with
      | cons r rs =>
        cases rs
        obtain ⟨q, xs, rfl, h1, q1⟩ := r.lst s
        have e := ints_reps q1 hn
        subst e
        refine ⟨q, ns, rfl, .inl (.inl h1), fun ns' z h2 h3 nz => ?_⟩
        have e : ns' = srtI ns := perm_srt (h2.trans (srtI_perm ns).symm) h3 (srtI_le ns)
        rw [e]
        exact p F _ (Ext.raw s nz) z _ nz upd_same (sub_none s nz) reps_ints
    · exact p.elim
  · exact p.elim
theorem sorted_ints' (xs : List Int) : gSorted [.lst (xs.map D.int)] = .ok ((srtI xs).map .int) := by
  show (match intsOf (xs.map D.int) with | some ns => R.ok ((srtI ns).map D.int) | none => .stuck) = _
  rw [intsOf_map]
end
/-! ### list(range(..)) -/
theorem rgV_rng (a b : Int) : rgV a b = ((List.range (b - a).toNat).map fun (i : Nat) => a + (i : Int)).map V.int := by
  unfold rgV
  rw [List.map_map]
  rfl
theorem rngL_one (a : Int) (n : Nat) : rngL a 1 n = ((List.range n).map fun (i : Nat) => a + (i : Int)).map D.int := by
  unfold rngL
  rw [List.map_map]
  exact List.map_congr_left fun i _ => by show D.int _ = D.int _; rw [Int.mul_one]
theorem reps_rg {K : PySem.W.Frag} {mg : Str → Option Value} {F : Hp} (a b : Int) : Reps K mg F (rngL a 1 (b - a).toNat) (rgV a b) := by
  rw [rgV_rng, rngL_one]
  generalize (List.range (b - a).toNat).map (fun (i : Nat) => a + (i : Int)) = ns
  induction ns with
  | nil => exact .nil
  | cons n ns ih => exact .cons (.int n) ih
def mLRg1 (m : Env → R D) : Env → R (List D) := fun Γ => m Γ >>= fun x => match x with
  | .int n => if -16777216 ≤ n ∧ n ≤ 16777216 then .ok (rngL 0 1 n.toNat) else .stuck
  | _ => .stuck
def mLRg2 (m m' : Env → R D) : Env → R (List D) := fun Γ => m Γ >>= fun x => m' Γ >>= fun y => match x, y with
  | .int a, .int b => if 0 ≤ a ∧ a ≤ 16777216 ∧ -16777216 ≤ b ∧ b ≤ 16777216 then .ok (rngL a 1 (b - a).toNat) else .stuck
  | _, _ => .stuck
section
variable {X : Cx} {C : Cg} {a b : Expr} {ta tb : TE} {ma mb : Env → R D} {p p2 pos pos2 : Pos}
theorem fl_lrg1 (hc : X.calm = true) (hg : Gl X "list") (hm : X.mg "list" = none) (hg2 : Gl X "range") (hm2 : X.mg "range" = none) (ha : FE X C a ta ma) (na : starEach [a] X.env = (false, eval a X.env) :: starEach [] X.env := by rfl)
    (na2 : starEach [.Call (.Name "range" p2) [a] [] pos2] X.env = (false, eval (.Call (.Name "range" p2) [a] [] pos2) X.env) :: starEach [] X.env := by rfl) :
    FL X C (.Call (.Name "list" p) [.Call (.Name "range" p2) [a] [] pos2] [] pos) (tLstRg (tRg1 ta)) (mLRg1 ma) :=
  ⟨pe_listRg hc hg hm (prg_1 hg2 hm2 ha.pe na) na2, fun Γ σ F H Q en q => ha.rd Γ σ F H _ en (Post.bind q fun x F1 H1 x1 p1 v r => by
    cases r with
    | int n =>
      have p2 : Post C (WE C.W σ) F1 H1 (if -16777216 ≤ n ∧ n ≤ 16777216 then .ok (rngL 0 1 n.toNat) else .stuck) (kL C H Q) := p1
      split at p2
      · refine ⟨n, rfl, ⟨by omega, by omega, by omega, by omega, by omega⟩, fun z nz => p2 _ _ (Ext.raw x1.sub nz) z _ (x1.sH.free nz) upd_same (sub_none x1.sub nz) ?_⟩
        have := reps_rg (K := C.K) (mg := C.mg) (F := F1) 0 n
        rw [Int.sub_zero] at this
        exact this
      · exact p2.elim
    | _ => exact p1.elim)⟩
theorem fl_lrg2 (hc : X.calm = true) (hg : Gl X "list") (hm : X.mg "list" = none) (hg2 : Gl X "range") (hm2 : X.mg "range" = none) (ha : FE X C a ta ma) (hb : FE X C b tb mb)
    (na : starEach [a, b] X.env = (false, eval a X.env) :: starEach [b] X.env := by rfl) (nb : starEach [b] X.env = (false, eval b X.env) :: starEach [] X.env := by rfl) (hp : (backTo pos2 (starEach [b] X.env)).any (·.1) = false := by rfl)
    (na2 : starEach [.Call (.Name "range" p2) [a, b] [] pos2] X.env = (false, eval (.Call (.Name "range" p2) [a, b] [] pos2) X.env) :: starEach [] X.env := by rfl) :
    FL X C (.Call (.Name "list" p) [.Call (.Name "range" p2) [a, b] [] pos2] [] pos) (tLstRg (tRg2 ta tb)) (mLRg2 ma mb) :=
  ⟨pe_listRg hc hg hm (prg_2 hg2 hm2 ha.pe hb.pe na nb hp) na2, fun Γ σ F H Q en q => ha.rd Γ σ F H _ en (Post.bind q fun x F1 H1 x1 p1 v r => hb.rd Γ σ F1 H1 _ (en.step x1) (Post.bind p1 fun y F2 H2 x2 p2 v2 r2 => by
    cases r with
    | int n =>
      cases r2 with
      | int k =>
        have p3 : Post C (WE C.W σ) F2 H2 (if 0 ≤ n ∧ n ≤ 16777216 ∧ -16777216 ≤ k ∧ k ≤ 16777216 then .ok (rngL n 1 (k - n).toNat) else .stuck) (kL C H Q) := p2
        split at p3
        · exact ⟨n, k, rfl, rfl, ⟨by omega, by omega, by omega, by omega, by omega⟩, fun z nz => p3 _ _ (Ext.raw x2.sub nz) z _ ((x1.sH.trans x2.sH).free nz) upd_same (sub_none x2.sub nz) (reps_rg _ _)⟩
        · exact p3.elim
      | _ => exact p2.elim
    | _ => exact p2.elim))⟩
end
theorem mLRg1_ev {Γ : Env} (m : Env → R D) : mLRg1 m Γ = (m Γ >>= fun x => match x with | .int n => if -16777216 ≤ n ∧ n ≤ 16777216 then .ok (rngL 0 1 n.toNat) else .stuck | _ => .stuck) := rfl
theorem mLRg2_ev {Γ : Env} (m m' : Env → R D) : mLRg2 m m' Γ = (m Γ >>= fun x => m' Γ >>= fun y => match x, y with | .int a, .int b => if 0 ≤ a ∧ a ≤ 16777216 ∧ -16777216 ≤ b ∧ b ≤ 16777216 then .ok (rngL a 1 (b - a).toNat) else .stuck | _, _ => .stuck) := rfl
/-! ### raise X('..') -/
def mRaise (n : Str) : Env → SO := fun Γ => .ex Γ n none
theorem mRaise_ev {Γ : Env} (n : Str) : mRaise n Γ = .ex Γ n none := rfl
end FL

set_option Elab.async false
set_option linter.all false
set_option maxRecDepth 100000
set_option maxHeartbeats 2000000
/-! FL, part 13: any walk; more facts; raise, try, isinstance of what was raised; changes of own lists. -/
namespace FL
open PySem PySem.Spec PyProof.Rows L2
set_option autoImplicit false
/-! ### a walk over a list, a tuple, a text -/
def asW : D → R (List D)
  | .lst ds => .ok ds
  | .scr ns => .ok (ns.map .int)
  | .tup ds => .ok ds
  | .str s => .ok (s.map fun c => .str [c])
  | _ => .stuck
theorem asW_lst (ds : List D) : asW (.lst ds) = .ok ds := rfl
theorem asW_tup (ds : List D) : asW (.tup ds) = .ok ds := rfl
theorem asW_scr (ds : List Int) : asW (.scr ds) = .ok (ds.map .int) := rfl
theorem asW_str (s : List Nat) : asW (.str s) = .ok (s.map fun c => .str [c]) := rfl
section
variable {X : Cx} {C : Cg} {tg e : Expr} {te : TE} {me : Env → R D} {p pos : Pos}
def iAny (K : PySem.W.Frag) (te : TE) : TI := fun σ H R => iList K te σ H R ∨ iTup K te σ H R ∨ iStr te σ H R
theorem pi_any (h : PE X e te) : PI X tg e (iAny X.K te) := ⟨fun pins s σ H R I h' => by
  rcases h' with h' | h' | h'
  · exact (pi_list h).run pins s σ H R I h'
  · exact (pi_tup h).run pins s σ H R I h'
  · exact (pi_str h).run pins s σ H R I h'⟩
theorem fi_any (hK : X.K = C.K) (he : FE X C e te me) : FI X C tg e (iAny X.K te) (fun Γ => do let x ← me Γ; asW x) := by
  refine ⟨pi_any he.pe, fun Γ σ F H Q en p => ?_⟩
  have hl := (fi_list (tg := tg) hK he).rd Γ σ F H Q en
  have ht := (fi_tup (tg := tg) hK he).rd Γ σ F H Q en
  have hs := (fi_str (tg := tg) he).rd Γ σ F H Q en
  revert p hl ht hs
  show Post C (WE C.W σ) F H (me Γ >>= asW) _ → (Post C (WE C.W σ) F H (me Γ >>= asL) _ → _) → (Post C (WE C.W σ) F H (me Γ >>= asTp) _ → _) → (Post C (WE C.W σ) F H (me Γ >>= asSt) _ → _) → _
  cases me Γ with
  | ok d =>
    cases d with
    | lst ds => exact fun p hl ht hs => .inl (hl p)
    | scr ns => exact fun p hl ht hs => .inl (hl p)
    | tup ds => exact fun p hl ht hs => .inr (.inl (ht p))
    | str s => exact fun p hl ht hs => .inr (.inr (hs p))
    | _ => exact fun p hl ht hs => p.elim
  | exc n d => exact fun p hl ht hs => .inl (hl p)
  | stuck => exact fun p hl ht hs => p.elim
end
/-! ### s.index(t) where it stands -/
def g_sindex (a : List Nat) : List D → R D
  | [.str b] => (match Txt.index0 (mk a) (mk b) with
      | some k => .ok (.int (k : Nat))
      | none => .stuck)
  | _ => .stuck
def rSIndex : V → List V → Hp → VK → Prop := fun x xs H Q => ∃ (a b : Str) (k : Nat), x = .str a ∧ xs = [.str b] ∧ Txt.index0 a b = some k ∧ Q (.int (k : Nat)) H
theorem takesF {X : Cx} : L2.Takes X (fun _ _ _ _ => False) := fun u s' ⟨a, B, sI, pins, σ, H, cls, d, e, I, nb, up, sky, na, os, ag, w⟩ => w.elim
theorem mt_sindex {X : Cx} (hc : X.calm = true) : MtR X "str.index" rSIndex := by
  intro pins s σ H x xs v us Q I rx rs h
  obtain ⟨a, b, k, e1, e2, hk, q⟩ := h
  exact mt_indexX (W := fun _ _ _ _ => False) hc takesF pins s σ H x xs v us Q I rx rs ⟨a, b, e1, e2, fun k' e => by rw [hk] at e; cases e; exact q, fun e => by rw [hk] at e; cases e⟩
theorem sm_sindex {C : Cg} : SM C rSIndex g_sindex := fun a ds vs F H E Q s o rs p => by
  unfold g_sindex at p
  split at p
  · split at p
    · rename_i k hk
      obtain ⟨e, _⟩ := args_s rs
      exact ⟨_, _, k, rfl, e, hk, p F H (Ext.refl s) _ (.int _)⟩
    · exact p.elim
  · exact p.elim
/-! ### more facts of the text -/
inductive FaX where
  /-- subclasses: which of these classes are below y (own), below the built-in t; what an except clause of y says -/
  | kit (tab : List (Str × Bool)) (y : Str) | kitT (tab : List (Str × Bool)) (t : String) | exm (tab : List (Str × Bool)) (y : Str)
  | tup (x : Str) (vs : List He.Dv) | lst (x : Str) (vs : List He.Dv)
  /-- a class without __init__ -/
  | mk0 (x : Str)
def exccB (K : PySem.W.Frag) (x : Str) : Bool := He.eqO (PySem.W.nsIn K mainGlobals x) (some (some (.ref (He.ga K x)))) &&
  (decide (PySem.W.findIn K (.ref (He.ga K x)) "__getattribute__" = some (some (.builtin "BaseException.__getattribute__"))) && (decide (PySem.W.findIn K (.ref (He.ga K x)) "__getattr__" = some none) && (decide (PySem.W.subIn K (.ref (He.ga K x)) (.type "BaseException") = some true) && (PySem.W.hasDictIn K (He.ga K x) &&
  (decide (PySem.W.findIn K (.ref (He.ga K x)) "__class__" = some (some (.builtin "object.__class__"))) && (decide (PySem.W.specialIn K (.builtin "object.__class__") "__get__" = some (some (.builtin "getset_descriptor.__get__"))) && (decide (PySem.W.takesIn K (.builtin "object.__class__") = some true) && decide (PySem.W.mroIn K (He.ga K x) (.type "object") = some true))))))))
def FaX.ok (K : PySem.W.Frag) : FaX → Bool
  | .kit tab y => tab.all fun p => exccB K p.1 && decide (PySem.W.kitOne K (.ref (He.ga K p.1)) (.ref (He.ga K y)) = some p.2)
  | .kitT tab t => tab.all fun p => exccB K p.1 && decide (PySem.W.kitOne K (.ref (He.ga K p.1)) (.type t) = some p.2)
  | .exm tab y => tab.all fun p => He.eqO (PySem.W.nsIn K mainGlobals p.1) (some (some (.ref (He.ga K p.1)))) && decide (PySem.W.exmOne K (.ref (He.ga K p.1)) (.ref (He.ga K y)) = some p.2)
  | .tup x vs => He.eqO (PySem.W.nsIn K mainGlobals x) (some (some (.ref (He.ga K x)))) && He.tupB K x vs
  | .lst x vs => He.eqO (PySem.W.nsIn K mainGlobals x) (some (some (.ref (He.ga K x)))) && He.lstB K x vs
  | .mk0 x => PySem.W.makesIn K (He.ga K x) && (He.eqO (PySem.W.findIn K (.ref (He.ga K x)) "__init__") (some (some (.builtin "object.__init__"))) && PySem.W.keepIn K (.ref (He.ga K x)))
theorem ba' {a b : Bool} (h : (a && b) = true) : a = true ∧ b = true := Bool.and_eq_true_iff.mp h
theorem exccB_ok {K : PySem.W.Frag} {h : Heap} {mg : Str → Option Value} {x : Str} (X : K.In h) (G : h.Ns mainGlobals mg) (c : exccB K x = true) : mg x = some (.ref (He.ga K x)) ∧ ExcC K (He.ga K x) := by
  obtain ⟨c0, c⟩ := ba' c
  obtain ⟨c1, c⟩ := ba' c
  obtain ⟨c2, c⟩ := ba' c
  obtain ⟨c3, c⟩ := ba' c
  obtain ⟨c4, c⟩ := ba' c
  obtain ⟨c5, c⟩ := ba' c
  obtain ⟨c6, c⟩ := ba' c
  obtain ⟨c7, c8⟩ := ba' c
  exact ⟨PySem.W.mg_of X G (He.eqO_ok c0), of_decide_eq_true c1, of_decide_eq_true c2, of_decide_eq_true c3, c4, of_decide_eq_true c5, of_decide_eq_true c6, of_decide_eq_true c7, of_decide_eq_true c8⟩
structure TxX (fa : List He.Fa) (fn : List He.DefD) (fx : List FaX) (K : PySem.W.Frag) (mg : Str → Option Value) : Prop where
  t : Tx fa fn K mg
  x : ∀ f ∈ fx, f.ok K = true
section
variable {fa : List He.Fa} {fn : List He.DefD} {fx : List FaX} {K : PySem.W.Frag} {mg : Str → Option Value}
theorem TxX.glo (T : TxX fa fn fx K mg) (i : Nat) {x : Str} (h : fa[i]? = some (.glo x)) : mg x = some (.ref (He.ga K x)) := T.t.glo i h
theorem TxX.free (T : TxX fa fn fx K mg) (i : Nat) {x : Str} (h : fa[i]? = some (.free x)) : mg x = none := T.t.free i h
theorem TxX.str (T : TxX fa fn fx K mg) (i : Nat) {x z : Str} (h : fa[i]? = some (.str x z)) : ∃ t, mg x = some (.str z t) := T.t.str i h
theorem TxX.int (T : TxX fa fn fx K mg) (i : Nat) {x : Str} {z : Int} (h : fa[i]? = some (.int x z)) : ∃ t, mg x = some (.int z t) := T.t.int i h
theorem TxX.exc (T : TxX fa fn fx K mg) (i : Nat) {x : Str} (h : fa[i]? = some (.exc x)) : PySem.W.excIn K (He.ga K x) He.veBase "ValueError.__new__" = true ∧ PySem.W.keepIn K (.ref (He.ga K x)) = true ∧ PySem.W.subIn K (.ref (He.ga K x)) (.type "BaseException") = some true ∧ PySem.W.typeIn K (.ref (He.ga K x)) = some (.type "type") := He.exc_ok (T.t.says.fact i h)
theorem TxX.at (T : TxX fa fn fx K mg) (i : Nat) {f : FaX} (h : fx[i]? = some f) : f.ok K = true := T.x f (List.mem_of_getElem? h)
theorem TxX.kit (T : TxX fa fn fx K mg) (i : Nat) {tab : List (Str × Bool)} {y : Str} (h : fx[i]? = some (.kit tab y)) : ∀ p ∈ tab, mg p.1 = some (.ref (He.ga K p.1)) ∧ ExcC K (He.ga K p.1) ∧ PySem.W.kitOne K (.ref (He.ga K p.1)) (.ref (He.ga K y)) = some p.2 := fun p hp => by
  obtain ⟨hp', X, G⟩ := T.t.ex
  obtain ⟨c1, c2⟩ := ba' (List.all_eq_true.mp (T.at i h) p hp)
  obtain ⟨h1, h2⟩ := exccB_ok X G c1
  exact ⟨h1, h2, of_decide_eq_true c2⟩
theorem TxX.kitT (T : TxX fa fn fx K mg) (i : Nat) {tab : List (Str × Bool)} {y : String} (h : fx[i]? = some (.kitT tab y)) : ∀ p ∈ tab, mg p.1 = some (.ref (He.ga K p.1)) ∧ ExcC K (He.ga K p.1) ∧ PySem.W.kitOne K (.ref (He.ga K p.1)) (.type y) = some p.2 := fun p hp => by
  obtain ⟨hp', X, G⟩ := T.t.ex
  obtain ⟨c1, c2⟩ := ba' (List.all_eq_true.mp (T.at i h) p hp)
  obtain ⟨h1, h2⟩ := exccB_ok X G c1
  exact ⟨h1, h2, of_decide_eq_true c2⟩
theorem TxX.exm (T : TxX fa fn fx K mg) (i : Nat) {tab : List (Str × Bool)} {y : Str} (h : fx[i]? = some (.exm tab y)) : ∀ p ∈ tab, mg p.1 = some (.ref (He.ga K p.1)) ∧ PySem.W.exmOne K (.ref (He.ga K p.1)) (.ref (He.ga K y)) = some p.2 := fun p hp => by
  obtain ⟨hp', X, G⟩ := T.t.ex
  obtain ⟨c1, c2⟩ := ba' (List.all_eq_true.mp (T.at i h) p hp)
  exact ⟨PySem.W.mg_of X G (He.eqO_ok c1), of_decide_eq_true c2⟩
theorem TxX.tup (T : TxX fa fn fx K mg) (i : Nat) {x : Str} {vs : List He.Dv} (h : fx[i]? = some (.tup x vs)) : mg x = some (.ref (He.ga K x)) ∧ ∀ H, SqT K H (He.ga K x) (vs.map (He.Dv.v K)) := by
  obtain ⟨hp', X, G⟩ := T.t.ex
  obtain ⟨c1, c2⟩ := ba' (T.at i h)
  exact ⟨PySem.W.mg_of X G (He.eqO_ok c1), fun H => He.tupB_ok c2 H⟩
theorem TxX.lst (T : TxX fa fn fx K mg) (i : Nat) {x : Str} {vs : List He.Dv} (h : fx[i]? = some (.lst x vs)) : mg x = some (.ref (He.ga K x)) ∧ ∀ H, SqL K H (He.ga K x) (vs.map (He.Dv.v K)) := by
  obtain ⟨hp', X, G⟩ := T.t.ex
  obtain ⟨c1, c2⟩ := ba' (T.at i h)
  exact ⟨PySem.W.mg_of X G (He.eqO_ok c1), fun H => He.lstB_ok c2 H⟩
end
abbrev AlF : Type := He.AlD × Bool
def obsF (fa : List He.Fa) (fn : List He.DefD) (fx : List FaX) (K : PySem.W.Frag) : AlF := (He.obsD fa fn K, fx.all fun f => f.ok K)
def obsFG (n : Nat) (fa : List He.Fa) (fn : List He.DefD) (fx : List FaX) (g : Addr → Option Obj) : AlF := obsF fa fn fx (He.frG g (He.asD g n))
def hookF (n : Nat) (fa : List He.Fa) (fn : List He.DefD) (fx : List FaX) : PySem.W.Hook where
  α := AlF
  obs := fun s => obsFG n fa fn fx s.heap.get?
  val := fun _ => (He.valD fn, true)
  says := fun _ h => ∃ K : PySem.W.Frag, K.In h ∧ He.SaysD fa fn K ∧ ∀ f ∈ fx, f.ok K = true
  of := fun _ h e => ⟨_, He.frG_in, congrArg (fun z : AlF => z.1) e, List.all_eq_true.mp (congrArg (fun z : AlF => z.2) e)⟩
  keeps := fun _ _ _ ⟨K, hK, c⟩ k => ⟨K, PySem.W.Frag.In.keeps hK k, c⟩
theorem obsFG_eq {n : Nat} {fa : List He.Fa} {fn : List He.DefD} {fx : List FaX} {g : Addr → Option Obj} {s : Shared} (h : ∀ a, g a = s.heap.get? a) : obsFG n fa fn fx g = (hookF n fa fn fx).obs s := by
  have e : g = s.heap.get? := funext h
  rw [e] <;> rfl
theorem bits_lt {k : Int} (h : Builtin.Int.intBits k ≤ 1048576) : k.natAbs < 2 ^ 1048576 := by
  by_cases h0 : k.natAbs = 0
  · rw [h0]; exact Nat.pow_pos (by decide)
  · have hk : (k == 0) = false := beq_eq_false_iff_ne.mpr fun e => h0 (by rw [e]; rfl)
    have h2 : (if (k == 0) = true then 0 else k.natAbs.log2 + 1) ≤ 1048576 := h
    rw [hk, if_neg Bool.false_ne_true] at h2
    exact (Nat.log2_lt h0).mp (by omega)
theorem walk_FX {l : PySem.W.OpenLaw} {n k : Nat} {q : Program} {loose : List Str} {XP : (Str → Option Value) → Heap → Prop} {fa : List He.Fa} {fn : List He.DefD} {fx : List FaX} {d : DefRec} {x : Str} {g : List D → R D}
    (hn : l.most = some n) (hn2 : n ≤ sizeLine) (hdf : d.params.defaults = []) (hr : Room k callerA) (hd : d.name = ("law" : Str))
    (B : ∀ (w : World) (K : PySem.W.Frag) (mg : Str → Option Value) (base : Heap), TxX fa fn fx K mg → FnB l.prog w K mg base "law" k [x] (spV K mg 1 g)) (hg : ∀ ns : List Int, ns.length ≤ n → g [.scr ns] = .ok (.bl true)) :
    PySem.W.WalkO q loose XP (fun _ h => (∃ K : PySem.W.Frag, K.In h ∧ He.SaysD fa fn K ∧ ∀ f ∈ fx, f.ok K = true)) l.row.toRowW d [] (fun f vs => PySem.call f vs) := by
  refine Att.attach_call hn hdf fun w s₀ s₁ mg mb fa0 o pm cd doc a vs ns G Y ho hd0 hcd hmg hobj hints hlen hg0 => ?_
  obtain ⟨K, KX, c, cx⟩ := Y
  have T : TxX fa fn fx K mg := ⟨⟨c, _, KX, G.T.g⟩, cx⟩
  obtain ⟨f, fd, h1, h2, h3, ⟨oc, od, osl, lk⟩, _⟩ := (B w K mg default T).ex
  have hmg' : mg ("law" : Str) = some (.ref fa0) := by rw [← hd]; exact hmg
  rw [h1] at hmg'
  cases hmg'
  refine law_call (sp := spV K mg 1 g) (CX := L2N.CX l.prog w) (w := w) KX G.T.g G.T.b G.T.builtins G.T.nolimit hg0 hobj hints (Nat.le_trans hlen hn2) hr (fun base kb gb => ?_) (fun s u => h3 s [u] rfl) (fun H hO hS => ?_) fun H e s' h => cxN_no h
  · obtain ⟨f', fd', g1, g2, g3, ⟨oc', od', osl', lk'⟩, g4⟩ := (B w K mg base T).ex
    rw [h1] at g1
    cases g1
    rw [lk] at lk'
    cases lk'
    exact g4
  · refine ⟨rfl, H, [.scr ns], Same.refl H, .cons (.scr hS) .nil, ?_⟩
    rw [hg ns hlen]
    exact fun F' H' x v r => by
      cases r
      rfl
theorem walk_FB {l : PySem.W.OpenLaw} {n k : Nat} {q : Program} {loose : List Str} {XP : (Str → Option Value) → Heap → Prop} {fa : List He.Fa} {fn : List He.DefD} {fx : List FaX} {d : DefRec} {x : Str} {g : List D → R D}
    (hn : l.most = some n) (hn2 : n ≤ sizeLine) (hdf : d.params.defaults = []) (hr : Room k callerA) (hd : d.name = ("law" : Str))
    (B : ∀ (w : World) (K : PySem.W.Frag) (mg : Str → Option Value) (base : Heap), TxX fa fn fx K mg → FnB l.prog w K mg base "law" k [x] (spV K mg 1 g)) (hg : ∀ ns : List Int, ns.length ≤ n → (∀ k ∈ ns, k.natAbs < 2 ^ 1048576) → g [.scr ns] = .ok (.bl true)) :
    PySem.W.WalkO q loose XP (fun _ h => (∃ K : PySem.W.Frag, K.In h ∧ He.SaysD fa fn K ∧ ∀ f ∈ fx, f.ok K = true)) l.row.toRowW d [] (fun f vs => PySem.call f vs) := by
  refine Att.attach_callB hn hdf fun w s₀ s₁ mg mb fa0 o pm cd doc a vs ns G Y ho hd0 hcd hmg hobj hints hlen hbits hg0 => ?_
  obtain ⟨K, KX, c, cx⟩ := Y
  have T : TxX fa fn fx K mg := ⟨⟨c, _, KX, G.T.g⟩, cx⟩
  obtain ⟨f, fd, h1, h2, h3, ⟨oc, od, osl, lk⟩, _⟩ := (B w K mg default T).ex
  have hmg' : mg ("law" : Str) = some (.ref fa0) := by rw [← hd]; exact hmg
  rw [h1] at hmg'
  cases hmg'
  refine law_call (sp := spV K mg 1 g) (CX := L2N.CX l.prog w) (w := w) KX G.T.g G.T.b G.T.builtins G.T.nolimit hg0 hobj hints (Nat.le_trans hlen hn2) hr (fun base kb gb => ?_) (fun s u => h3 s [u] rfl) (fun H hO hS => ?_) fun H e s' h => cxN_no h
  · obtain ⟨f', fd', g1, g2, g3, ⟨oc', od', osl', lk'⟩, g4⟩ := (B w K mg base T).ex
    rw [h1] at g1
    cases g1
    rw [lk] at lk'
    cases lk'
    exact g4
  · refine ⟨rfl, H, [.scr ns], Same.refl H, .cons (.scr hS) .nil, ?_⟩
    rw [hg ns hlen (fun k hk => bits_lt (hbits k hk))]
    exact fun F' H' x v r => by
      cases r
      rfl
/-! ### raise -/
section
variable {X : Cx} {C : Cg} {x m : Str} {A : Addr} {j : Nat} {p p2 pos pos' : Pos}
theorem fs_raise (hc : X.calm = true) (hmg : X.mg = C.mg) (tk : L2N.Takes X C.W) (hg : Gl X x) (gC : X.mg x = some (.ref A)) (ex : PySem.W.excIn X.K A He.veBase "ValueError.__new__" = true ∧ PySem.W.keepIn X.K (.ref A) = true ∧ PySem.W.subIn X.K (.ref A) (.type "BaseException") = some true ∧ PySem.W.typeIn X.K (.ref A) = some (.type "type")) (hdb : (x == ("__debug__" : Str)) = false := by decide) :
    FS X C (.Raise (some (.Call (.Name x p) [.Constant (.str m) j p2] [] pos)) none pos') (fun D σ H => C.W (.ref A) none σ H) (mRaise x) :=
  ⟨L2N.ps_raise hc tk (L2N.pmk_own PySem.F.excBase_ValueError ex.1 gC ex.2.1 (raises_own ex.2.2.1 ex.2.2.2) hg hdb), fun Γ σ F H D en p => p σ F H (.ref A) none en (.refl F) ⟨by rw [← hmg]; exact gC, ⟨A, rfl⟩, rfl⟩⟩
end
/-! ### try .. except X as e -/
def Cg.wW (C : Cg) (W : WX) : Cg := ⟨C.K, C.mg, W, C.P, C.F0, C.B⟩
/-- within the suite: slot i holds the exception of class n -/
def Cg.su (C : Cg) (i : Nat) (a : Addr) (cls : Value) (d : Option Addr) (n : Str) : Cg := ⟨C.K, C.mg, fun _ _ _ _ => False, fun σ => σ[i]? = some (some (.ref a)) ∧ C.mg n = some cls ∧ (∃ A, cls = .ref A) ∧ d = none, C.F0, C.B⟩
theorem keepsS {C : Cg} {i j : Nat} {a : Addr} {cls : Value} {d : Option Addr} {n : Str} (h : j ≠ i) : Keeps (C.su i a cls d n) j := fun σ o e => ⟨by rw [List.getElem?_set_ne h]; exact e.1, e.2⟩
theorem takesS {X : Cx} {C : Cg} {i : Nat} {a : Addr} {cls : Value} {d : Option Addr} {n : Str} : L2N.Takes X (C.su i a cls d n).W := fun u s' ⟨a, B, sI, pins, σ, H, cls, d, e, I, nb, up, sky, na, os, ag, w⟩ => w.elim
def endS (i : Nat) : SO → SO
  | .nx Γ => .nx (Γ.set i .no)
  | .bk Γ => .bk (Γ.set i .no)
  | .ct Γ => .ct (Γ.set i .no)
  | .rt d => .rt d
  | .rtL d => .rtL d
  | _ => .stuck
def catchX (i : Nat) (sb : List (Str × Bool)) (ms : Str → Env → SO) (Γ : Env) (n : Str) (d : Option D) : SO := match sb.lookup n, d with
  | some true, none => if i < Γ.length then endS i (ms n (Γ.set i .no)) else .stuck
  | some false, _ => .ex Γ n d
  | _, _ => .stuck
def mTry (i : Nat) (sb : List (Str × Bool)) (mb : Env → SO) (ms : Str → Env → SO) : Env → SO := fun Γ => match mb Γ with
  | .ex Γ' n d => catchX i sb ms Γ' n d
  | s => s
def tbCan (C : Cg) (mb : Env → SO) (W : WX) : TS := fun D σ H => ∃ Γ F, EnvOk (C.wW W) Γ σ F H ∧ PostS (C.wW W) F D (mb Γ)
def tsCan (C : Cg) (i : Nat) (ms : Str → Env → SO) (a : Addr) (cls : Value) (d : Option Addr) : TS := fun D σ H => ∃ n Γ F, EnvOk (C.su i a cls d n) Γ σ F H ∧ PostS (C.su i a cls d n) F D (ms n Γ)
theorem lookup_mem {n : Str} {b : Bool} : ∀ {tab : List (Str × Bool)}, tab.lookup n = some b → (n, b) ∈ tab
  | [], h => by cases h
  | (m, c) :: r, h => by
    by_cases e : n == m
    · have e' := eq_of_beq e
      subst e'
      rw [List.lookup_cons, e] at h
      cases h
      exact List.mem_cons_self ..
    · have e' : (n == m) = false := by simpa using e
      rw [List.lookup_cons, e'] at h
      exact List.mem_cons_of_mem _ (lookup_mem h)
theorem Ends.eta (D : Ends) : D = { nx := D.nx, rt := D.rt, bk := D.bk, ct := D.ct } := rfl
section
variable {X : Cx} {C : Cg} {x nm : Str} {A : Addr} {i : Nat} {body suite : List Stmt} {b₀ : Stmt} {np pos pos' : Pos} {mb : Env → SO} {ms : Str → Env → SO} {sb : List (Str × Bool)}
theorem posts_end {a : Addr} {cls : Value} {d : Option Addr} {n : Str} {F : Hp} {D : Ends} {s : SO} (hP : ∀ σ, C.P σ) (h : PostS C F D (endS i s)) :
    PostS (C.su i a cls d n) F { nx := fun σ' H' => D.nx (σ'.set i none) H', rt := D.rt, bk := fun σ' H' => D.bk (σ'.set i none) H', ct := fun σ' H' => D.ct (σ'.set i none) H' } s := by
  have cv : ∀ {Γ : Env} {σ' : St} {F' H' : Hp}, EnvOk (C.su i a cls d n) Γ σ' F' H' → EnvOk C (Γ.set i .no) (σ'.set i none) F' H' := fun {Γ σ' F' H'} e =>
    (EnvOk.set (C := C) (s := .no) (o := none) (e.swap C.W C.P (hP σ')) (hP _) trivial fun z => by cases z)
  cases s with
  | nx Γ => exact fun σ' F' H' e y => h _ F' H' (cv e) y
  | bk Γ => exact fun σ' F' H' e y => h _ F' H' (cv e) y
  | ct Γ => exact fun σ' F' H' e y => h _ F' H' (cv e) y
  | rt d => exact h
  | rtL d => exact h
  | ex Γ n d => exact h.elim
  | stuck => exact h.elim
theorem fs_try (hP : ∀ σ, C.P σ) (hK : X.K = C.K) (hs : X.stack = X.env :: X.outer) (hf : X.env.frame = some X.env.locals) (hN : X.N.Nodup) (hi : X.N[i]? = some nm) (hln : X.env.kindOf nm = some .local) (hc : Names X x (.ref A)) (tk : L2N.Takes X C.W)
    (hsb : ∀ p ∈ sb, ∀ cls, C.mg p.1 = some cls → PySem.W.exmOne X.K cls (.ref A) = some p.2)
    (hb : ∀ (W : WX) (pn : List (Addr × Obj)) (xe : Value → Shared → Prop), L2N.Takes (X.tr pn xe) W → PassesOwn (model X.prog X.w) X.A X.env xe → ∃ t, FB2 (X.tr pn xe) (C.wW W) body t mb)
    (hsu : ∀ (n : Str) (a : Addr) (oe : Obj) (cls : Value) (d : Option Addr) (pn : List (Addr × Obj)), L2N.Zn cls d oe → (∃ vs, oe.data = .fields vs) → ∃ t, FB2 (X.suite a ((a, oe) :: pn)) (C.su i a cls d n) (b₀ :: suite) t (ms n)) :
    FS X C (.Try body [.ExceptHandler (some (.Name x np)) (some nm) (b₀ :: suite) pos'] [] [] pos) (fun D σ H => tbCan C mb (wAs X.K (.ref A) i (tsCan C i ms) C.W D) D σ H) (mTry i sb mb ms) := by
  refine ⟨L2N.ps_try_as hs hf hN hi hln hc tk (fun W pn xe tk' po => ⟨fun pins s σ H D I h => ?_⟩) (fun a oe cls d pn hz hv => ⟨fun pins s σ H D I h => ?_⟩), fun Γ σ F H D en p => ?_⟩
  · obtain ⟨Γ, F, en, p⟩ := h
    obtain ⟨t, ht⟩ := hb W pn xe tk' po
    exact ht.ps.run pins s σ H D I (ht.rd Γ σ F H D en p)
  · obtain ⟨n, Γ, F, en, p⟩ := h
    obtain ⟨t, ht⟩ := hsu n a oe cls d pn hz hv
    exact ht.ps.run pins s σ H D I (ht.rd Γ σ F H D en p)
  · refine ⟨Γ, F, en.swap _ _ en.pre, ?_⟩
    unfold mTry at p
    revert p
    cases mb Γ with
    | nx Γ1 => exact fun p σ' F' H' e y => p σ' F' H' (e.swap C.W C.P e.pre) y
    | bk Γ1 => exact fun p σ' F' H' e y => p σ' F' H' (e.swap C.W C.P e.pre) y
    | ct Γ1 => exact fun p σ' F' H' e y => p σ' F' H' (e.swap C.W C.P e.pre) y
    | rt d => exact fun p => p
    | rtL d => exact fun p => p
    | stuck => exact fun p => p
    | ex Γ1 n d =>
      intro p σ' F' H' cls dv e y ex
      have p' : PostS C F D (catchX i sb ms Γ1 n d) := p
      unfold catchX at p'
      split at p'
      · rename_i hl
        split at p'
        · rename_i hlen
          obtain ⟨h1, h2, h3⟩ := ex
          refine ⟨true, hsb _ (lookup_mem hl) cls h1, fun _ a na => ?_, fun q => by cases q⟩
          have hi' : i < σ'.length := by rw [← e.len]; exact hlen
          have en2 : EnvOk (C.su i a cls dv n) (Γ1.set i .no) (σ'.set i (some (.ref a))) F' H' :=
            (EnvOk.set (C := C) (s := .no) (o := some (.ref a)) (e.swap C.W C.P (hP σ')) (hP _) trivial (fun z => by cases z)).swap _ _ ⟨List.getElem?_set_self hi', h1, h2, h3⟩
          exact ⟨n, _, F', en2, posts_end hP (p'.step y)⟩
        · exact p'.elim
      · rename_i hl
        exact ⟨false, hsb _ (lookup_mem hl) cls ex.1, (fun q => by cases q), fun _ => p' σ' F' H' cls dv (e.swap C.W C.P (hP σ')) y ex⟩
      · exact p'.elim
/-- isinstance(e, Y) in the suite -/
def mIsE (tab : List (Str × Bool)) (n : Str) : Env → R D := fun _ => match tab.lookup n with
  | some b => .ok (.bl b)
  | none => .stuck
def tIsE (K : PySem.W.Frag) (cls : Value) (d : Option Addr) (i : Nat) (a : Addr) (cv : Value) : TE := fun σ H Q => ∃ (D : Addr) (b : Bool), cls = .ref D ∧ d = none ∧ ExcC K D ∧ PySem.W.kitOne K (.ref D) cv = some b ∧ σ[i]? = some (some (.ref a)) ∧ Q (.bl b) H
theorem isE_rd {a : Addr} {cls : Value} {d : Option Addr} {n : Str} {cv : Value} {tab : List (Str × Bool)} (hK : X.K = C.K) (ht : ∀ p ∈ tab, C.mg p.1 = some (.ref (He.ga X.K p.1)) ∧ ExcC X.K (He.ga X.K p.1) ∧ PySem.W.kitOne X.K (.ref (He.ga X.K p.1)) cv = some p.2) :
    ∀ Γ σ F H Q, EnvOk (C.su i a cls d n) Γ σ F H → Post (C.su i a cls d n) (WE (C.su i a cls d n).W σ) F H (mIsE tab n Γ) (kV (C.su i a cls d n) Q) → tIsE X.K cls d i a cv σ H Q := fun Γ σ F H Q en p => by
  obtain ⟨h1, h2, ⟨A, h3⟩, h4⟩ := en.pre
  unfold mIsE at p
  split at p
  · rename_i b hb
    obtain ⟨g1, g2, g3⟩ := ht _ (lookup_mem hb)
    rw [h2] at g1
    injection g1 with g1
    exact ⟨_, b, g1, h4, g2, g3, h1, p F H (Ext.refl en.sub) _ (.bl b)⟩
  · exact p.elim
theorem fe_isE {a : Addr} {oe : Obj} {pn : List (Addr × Obj)} {cls : Value} {d : Option Addr} {n y : Str} {B : Addr} {tab : List (Str × Bool)} {p1 p2 : Pos} (hz : L2N.Zn cls d oe) (hv : ∃ vs, oe.data = .fields vs) (hK : X.K = C.K) (hmg : X.mg = C.mg)
    (he : PE (X.suite a ((a, oe) :: pn)) (.Name nm p1) (tVar i)) (hg : Gl (X.suite a ((a, oe) :: pn)) y) (hmy : X.mg y = some (.ref (He.ga X.K y))) (hg2 : Gl (X.suite a ((a, oe) :: pn)) "isinstance") (hm2 : X.mg "isinstance" = none)
    (ht : ∀ p ∈ tab, X.mg p.1 = some (.ref (He.ga X.K p.1)) ∧ ExcC X.K (He.ga X.K p.1) ∧ PySem.W.kitOne X.K (.ref (He.ga X.K p.1)) (.ref (He.ga X.K y)) = some p.2) (hdy : (y == ("__debug__" : Str)) = false := by decide)
    (hst : starEach [.Name nm p1, .Name y p2] (X.suite a ((a, oe) :: pn)).env = (false, eval (.Name nm p1) (X.suite a ((a, oe) :: pn)).env) :: starEach [.Name y p2] (X.suite a ((a, oe) :: pn)).env := by rfl) (hst2 : starEach [.Name y p2] (X.suite a ((a, oe) :: pn)).env = (false, eval (.Name y p2) (X.suite a ((a, oe) :: pn)).env) :: starEach [] (X.suite a ((a, oe) :: pn)).env := by rfl)
    (hpl : (backTo pos (starEach [.Name y p2] (X.suite a ((a, oe) :: pn)).env)).any (·.1) = false := by rfl) :
    FE (X.suite a ((a, oe) :: pn)) (C.su i a cls d n) (.Call (.Name "isinstance" np) [.Name nm p1, .Name y p2] [] pos) (tIsE X.K cls d i a (.ref (He.ga X.K y))) (mIsE tab n) := by
  refine ⟨⟨fun pins s σ H Q I h => ?_⟩, isE_rd hK (fun p hp => by rw [← hmg]; exact ht p hp)⟩
  obtain ⟨D, b, rfl, rfl, g2, g3, g4, q⟩ := h
  refine (pe_callB (call_isE g2 hz.zc hv) hg2 hm2 (by decide +kernel) (pa_cons he (pa_cons (pe_glob (v := .ref (He.ga X.K y)) hg hmy rfl hdy) pa_nil hst2) hst) (by decide) (by decide) hst hpl).run pins s σ H Q I ?_
  exact ⟨_, g4, .ref (He.ga X.K y), .ref (He.ga X.K y), b, rfl, fun u hu => hu, g3, q⟩
theorem fe_isET {a : Addr} {oe : Obj} {pn : List (Addr × Obj)} {cls : Value} {d : Option Addr} {n y : Str} {B : Addr} {t : String} {tab : List (Str × Bool)} {p1 p2 : Pos} (hz : L2N.Zn cls d oe) (hv : ∃ vs, oe.data = .fields vs) (hK : X.K = C.K) (hmg : X.mg = C.mg)
    (he : PE (X.suite a ((a, oe) :: pn)) (.Name nm p1) (tVar i)) (hg : Gl (X.suite a ((a, oe) :: pn)) y) (hmy : X.mg y = none) (hby : bootBuiltins y = some (.type t)) (hg2 : Gl (X.suite a ((a, oe) :: pn)) "isinstance") (hm2 : X.mg "isinstance" = none)
    (ht : ∀ p ∈ tab, X.mg p.1 = some (.ref (He.ga X.K p.1)) ∧ ExcC X.K (He.ga X.K p.1) ∧ PySem.W.kitOne X.K (.ref (He.ga X.K p.1)) (.type t) = some p.2) (hny : y ≠ "__name__" := by decide) (hdy : (y == ("__debug__" : Str)) = false := by decide)
    (hst : starEach [.Name nm p1, .Name y p2] (X.suite a ((a, oe) :: pn)).env = (false, eval (.Name nm p1) (X.suite a ((a, oe) :: pn)).env) :: starEach [.Name y p2] (X.suite a ((a, oe) :: pn)).env := by rfl) (hst2 : starEach [.Name y p2] (X.suite a ((a, oe) :: pn)).env = (false, eval (.Name y p2) (X.suite a ((a, oe) :: pn)).env) :: starEach [] (X.suite a ((a, oe) :: pn)).env := by rfl)
    (hpl : (backTo pos (starEach [.Name y p2] (X.suite a ((a, oe) :: pn)).env)).any (·.1) = false := by rfl) :
    FE (X.suite a ((a, oe) :: pn)) (C.su i a cls d n) (.Call (.Name "isinstance" np) [.Name nm p1, .Name y p2] [] pos) (tIsE X.K cls d i a (.type t)) (mIsE tab n) := by
  refine ⟨⟨fun pins s σ H Q I h => ?_⟩, isE_rd hK (fun p hp => by rw [← hmg]; exact ht p hp)⟩
  obtain ⟨D, b, rfl, rfl, g2, g3, g4, q⟩ := h
  refine (pe_callB (call_isE g2 hz.zc hv) hg2 hm2 (by decide +kernel) (pa_cons he (pa_cons (pe_bltn (v := .ty t) hg hmy hby rfl hny hdy) pa_nil hst2) hst) (by decide) (by decide) hst hpl).run pins s σ H Q I ?_
  exact ⟨_, g4, .ty t, .type t, b, rfl, fun u hu => hu, g3, q⟩
end
theorem mTry_ev {Γ : Env} (i : Nat) (sb : List (Str × Bool)) (mb : Env → SO) (ms : Str → Env → SO) : mTry i sb mb ms Γ = (match mb Γ with | .ex Γ' n d => catchX i sb ms Γ' n d | s => s) := rfl
theorem mTry_nx {Γ Γ' : Env} {i : Nat} {sb : List (Str × Bool)} {mb : Env → SO} {ms : Str → Env → SO} (h : mb Γ = .nx Γ') : mTry i sb mb ms Γ = .nx Γ' := by unfold mTry; rw [h]
theorem mTry_ex {Γ Γ' : Env} {i : Nat} {sb : List (Str × Bool)} {mb : Env → SO} {ms : Str → Env → SO} {n : Str} (h : mb Γ = .ex Γ' n none) (hs : sb.lookup n = some true) (hl : i < Γ'.length) : mTry i sb mb ms Γ = endS i (ms n (Γ'.set i .no)) := by
  unfold mTry
  rw [h]
  show catchX i sb ms Γ' n none = _
  unfold catchX
  rw [hs]
  exact if_pos hl
theorem mIsE_ev {Γ : Env} {tab : List (Str × Bool)} {n : Str} {b : Bool} (h : tab.lookup n = some b) : mIsE tab n Γ = .ok (.bl b) := by unfold mIsE; rw [h]
theorem endS_nx {i : Nat} {Γ : Env} : endS i (.nx Γ) = .nx (Γ.set i .no) := rfl
theorem endS_rt {i : Nat} {d : D} : endS i (.rt d) = .rt d := rfl
/-! ### reckoned, more -/
theorem flat_signs : ∀ ys : List Nat, (ys.map fun c => [c]).flatten = ys
  | [] => rfl
  | y :: ys => by
    show [y] ++ (ys.map fun c => [c]).flatten = _
    rw [flat_signs ys]; rfl
theorem sumLen_signs (ys : List Nat) : sumLen (ys.map fun c => [c]) = ys.length := by
  unfold sumLen
  rw [List.map_map]
  induction ys with
  | nil => rfl
  | cons y ys ih => rw [List.map_cons, List.sum_cons, ih, List.length_cons]; show 1 + _ = _; omega
/-- ''.join of signs -/
theorem join_signs (ys : List Nat) (h : ys.length ≤ 16777216) : g_join [] [.lst (ys.map fun c => D.str [c])] = .ok (.str ys) := by
  have e : (ys.map fun c => D.str [c]) = (ys.map fun c => [c]).map D.str := by rw [List.map_map]; rfl
  rw [e, g_join_ev _ _ (by rw [sumLen_signs]; simp; exact h), joinL_nil, flat_signs]
theorem in_sign (c : Nat) (s : List Nat) : D.in_ (.str [c]) (.str s) = .ok (.bl (decide (c ∈ s))) := rfl
theorem notIn_sign (c : Nat) (s : List Nat) : D.notIn (.str [c]) (.str s) = .ok (.bl (!decide (c ∈ s))) := rfl
theorem isN_str (s : List Nat) : D.isN (.str s) .non = .ok (.bl false) := rfl
theorem notN_str (s : List Nat) : D.notN (.str s) .non = .ok (.bl true) := rfl
theorem isN_tup (s : List D) : D.isN (.tup s) .non = .ok (.bl false) := rfl
theorem notN_tup (s : List D) : D.notN (.tup s) .non = .ok (.bl true) := rfl
theorem isi_int_int (i : Int) : gIsi [.int i, .ty "int"] = .ok (.bl true) := rfl
theorem isi_int_bool (i : Int) : gIsi [.int i, .ty "bool"] = .ok (.bl false) := rfl
theorem isi_bl_bool (i : Bool) : gIsi [.bl i, .ty "bool"] = .ok (.bl true) := rfl
theorem isi_bl_int (i : Bool) : gIsi [.bl i, .ty "int"] = .ok (.bl true) := rfl
theorem isi_str_str (s : List Nat) : gIsi [.str s, .ty "str"] = .ok (.bl true) := rfl
theorem isi_tup_tup (s : List D) : gIsi [.tup s, .ty "tuple"] = .ok (.bl true) := rfl
theorem isi_lst_lst (s : List D) : gIsi [.lst s, .ty "list"] = .ok (.bl true) := rfl
theorem isi_non_int : gIsi [.non, .ty "int"] = .ok (.bl false) := rfl
theorem isi_non_tup : gIsi [.non, .ty "tuple"] = .ok (.bl false) := rfl
theorem if_small {α : Type} {n : Nat} (h : n < 16777216) (a b : α) : (if n < 16777216 then a else b) = a := if_pos h
theorem if_small' {α : Type} {n : Nat} (h : n ≤ 16777216) (a b : α) : (if n ≤ 16777216 then a else b) = a := if_pos h
/-- a comprehension over a range -/
theorem compL_rng {t : D → R (Option D)} {lo : Int} {n : Nat} (f : Nat → D) (h : ∀ i : Nat, i < n → t (.int (lo + (i : Int))) = .ok (some (f i))) : compL t (rngL lo 1 n) = .ok ((List.range n).map f) := by
  unfold rngL
  refine compL_of (g := fun (i : Nat) => D.int (lo + (i : Int) * 1)) f fun i hi => ?_
  rw [Int.mul_one]
  exact h i (List.mem_range.mp hi)
theorem compL_ints {t : D → R (Option D)} (f : Int → D) {xs : List Int} (h : ∀ x ∈ xs, t (.int x) = .ok (some (f x))) : compL t (xs.map D.int) = .ok (xs.map f) := compL_of (g := D.int) f h
theorem cut_mem {α : Type} {xs : List α} {a b : Option Int} {d : α} (h : d ∈ cutL xs a b) : d ∈ xs := List.drop_subset _ _ (List.take_subset _ _ h)
/-- a loop that goes on or returns -/
theorem forL_or {g : Env → D → Option Env} {body : Env → SO} {ds : List D} {Γ : Env} (I : Nat → Env → Prop) (Z : D → Prop) (h0 : I 0 Γ)
    (hs : ∀ (i : Nat) (d : D) (Γ : Env), ds[i]? = some d → I i Γ → ∃ Γ1, g Γ d = some Γ1 ∧ ((∃ Γ', (body Γ1 = .nx Γ' ∨ body Γ1 = .ct Γ') ∧ I (i + 1) Γ') ∨ (∃ r, body Γ1 = .rt r ∧ Z r))) : (∃ Γ', forL g body ds Γ = .nx Γ' ∧ I ds.length Γ') ∨ ∃ r, forL g body ds Γ = .rt r ∧ Z r := by
  rcases forL_inv (g := g) (body := body) (ds := ds) (Γ := Γ) I (fun s => ∃ r, s = .rt r ∧ Z r) 0 h0 (fun i d Γ hd h => by
    rw [Nat.zero_add] at h ⊢
    obtain ⟨Γ1, a, b⟩ := hs i d Γ hd h
    refine ⟨Γ1, a, ?_⟩
    rcases b with b | ⟨r, b1, b2⟩
    · exact .inl b
    · refine .inr (.inr ⟨fun Γ' => ?_, r, b1, b2⟩)
      rw [b1]
      exact ⟨(fun z => by cases z), (fun z => by cases z), (fun z => by cases z)⟩) with h | h
  · rw [Nat.zero_add] at h; exact .inl h
  · exact .inr h
/-- .. or breaks off -/
theorem forL_brk {g : Env → D → Option Env} {body : Env → SO} {ds : List D} {Γ : Env} (I : Nat → Env → Prop) (Z : Env → Prop) (h0 : I 0 Γ)
    (hs : ∀ (i : Nat) (d : D) (Γ : Env), ds[i]? = some d → I i Γ → ∃ Γ1, g Γ d = some Γ1 ∧ ((∃ Γ', (body Γ1 = .nx Γ' ∨ body Γ1 = .ct Γ') ∧ I (i + 1) Γ') ∨ (∃ Γ', body Γ1 = .bk Γ' ∧ Z Γ'))) : ∃ Γ', forL g body ds Γ = .nx Γ' ∧ (I ds.length Γ' ∨ Z Γ') := by
  rcases forL_inv (g := g) (body := body) (ds := ds) (Γ := Γ) I (fun s => ∃ r, s = .nx r ∧ Z r) 0 h0 (fun i d Γ hd h => by
    rw [Nat.zero_add] at h ⊢
    obtain ⟨Γ1, a, b⟩ := hs i d Γ hd h
    refine ⟨Γ1, a, ?_⟩
    rcases b with b | ⟨r, b1, b2⟩
    · exact .inl b
    · exact .inr (.inl ⟨r, b1, r, rfl, b2⟩)) with ⟨Γ', h1, h2⟩ | ⟨Γ', h1, h2⟩
  · rw [Nat.zero_add] at h2; exact ⟨Γ', h1, .inl h2⟩
  · exact ⟨Γ', h1, .inr h2⟩
end FL

set_option Elab.async false
set_option linter.all false
set_option maxRecDepth 100000
set_option maxHeartbeats 2000000
/-! FL, part 14: defaults; own lists changed; walks backward; constant tuples. -/
namespace FL
open PySem PySem.Spec PyProof.Rows L2
set_option autoImplicit false
/-! ### defs with defaults -/
def dvD : He.Dv → Option D
  | .non => some .non
  | .bl b => some (.bl b)
  | .int i => some (.int i)
  | .str x => if (x.cps.toList.all fun c => decide (c < 1114112)) = true then some (.str x.cps.toList) else none
  | _ => none
theorem dvD_rep {K : PySem.W.Frag} {mg : Str → Option Value} {F : Hp} {v : He.Dv} {d : D} (h : dvD v = some d) : Rep K mg F d (v.v K) := by
  unfold dvD at h
  split at h
  · cases h; exact .non
  · cases h; exact .bl _
  · cases h; exact .int _
  · split at h
    · rename_i x ho
      cases h
      have q := Rep.str (K := K) (mg := mg) (F := F) _ (okS_of ho)
      rw [mk_of] at q
      exact q
    · cases h
  · cases h
def dvDs : List He.Dv → Option (List D)
  | [] => some []
  | v :: vs => (dvD v).bind fun d => (dvDs vs).map (d :: ·)
theorem dvDs_reps {K : PySem.W.Frag} {mg : Str → Option Value} {F : Hp} : ∀ {vs : List He.Dv} {ds : List D}, dvDs vs = some ds → Reps K mg F ds (vs.map (He.Dv.v K))
  | [], _, h => by cases h; exact .nil
  | v :: vs, ds, h => by
    obtain ⟨d, h1, h2⟩ := Option.bind_eq_some_iff.mp (show (dvD v).bind (fun d => (dvDs vs).map (d :: ·)) = some ds from h)
    obtain ⟨es, h3, h4⟩ := Option.map_eq_some_iff.mp h2
    subst h4
    exact .cons (dvD_rep h1) (dvDs_reps h3)
structure FnBO (P : Program) (w : World) (K : PySem.W.Frag) (mg : Str → Option Value) (base : Heap) (x : Str) (k : Nat) (ps : List Str) (d : He.DefD) (sp : Sp) : Prop where
  ex : ∃ f fd, mg x = some (.ref f) ∧ PySem.W.keepIn K (.ref f) = true ∧ FunD K d.name d.qual d.params d.body d.scope (d.dvs K) (d.kws K) f fd ∧ FnOk P w K mg base (L2N.CX P w) k f fd ps sp
section
variable {fa : List He.Fa} {fn : List He.DefD} {fx : List FaX} {K : PySem.W.Frag} {mg : Str → Option Value} {P : Program} {w : World} {base : Heap}
theorem Tx.fnboV (T : Tx fa fn K mg) (i j : Nat) {d : He.DefD} {x : Str} {N ps : List Str} {k : Nat} {m : Env → SO} (hd : fn[i]? = some d) (hx : fa[j]? = some (.glo x)) (ha : d.at_ = (x, none)) (S : FnScope N ps d.scope)
    (h : ∀ (f : Addr) (cdv : Value) (A : Around) (outer : List PySem.Env) (s : Shared) (H F0 : Hp) (E : XK), Room k (A.deeper (envOfC d.qual d.scope s.heap.objs.size f cdv)) → L2N.Takes (cxOf (L2N.CX P w) P w K mg base N d.qual d.scope f cdv A outer s H E) (cg0 K mg E F0 H).W →
      PassesOwn (model P w) (A.deeper (envOfC d.qual d.scope s.heap.objs.size f cdv)) (envOfC d.qual d.scope s.heap.objs.size f cdv) (cxOf (L2N.CX P w) P w K mg base N d.qual d.scope f cdv A outer s H E).xe →
      ∃ t, FB2 (cxOf (L2N.CX P w) P w K mg base N d.qual d.scope f cdv A outer s H E) (cg0 K mg E F0 H) d.body t m) : FnBO P w K mg base x (k + 1) ps d (spV K mg ps.length (mFn N.length m)) := by
  obtain ⟨fd, F⟩ := T.says.def_ i hd
  have e : He.fAd K d.at_ = He.ga K x := by rw [ha]; rfl
  rw [e] at F
  exact ⟨_, fd, T.glo j hx, F.kp, F, fn_val F S fun cdv A outer s H F0 E hr => h _ cdv A outer s H F0 E hr (L2N.takes_of rfl rfl rfl rfl) (passes_of rfl)⟩
theorem Tx.fnboL (T : Tx fa fn K mg) (i j : Nat) {d : He.DefD} {x : Str} {N ps : List Str} {k : Nat} {m : Env → SO} (hd : fn[i]? = some d) (hx : fa[j]? = some (.glo x)) (ha : d.at_ = (x, none)) (S : FnScope N ps d.scope)
    (h : ∀ (f : Addr) (cdv : Value) (A : Around) (outer : List PySem.Env) (s : Shared) (H F0 : Hp) (E : XK), Room k (A.deeper (envOfC d.qual d.scope s.heap.objs.size f cdv)) → L2N.Takes (cxOf (L2N.CX P w) P w K mg base N d.qual d.scope f cdv A outer s H E) (cg0 K mg E F0 H).W →
      PassesOwn (model P w) (A.deeper (envOfC d.qual d.scope s.heap.objs.size f cdv)) (envOfC d.qual d.scope s.heap.objs.size f cdv) (cxOf (L2N.CX P w) P w K mg base N d.qual d.scope f cdv A outer s H E).xe →
      ∃ t, FB2 (cxOf (L2N.CX P w) P w K mg base N d.qual d.scope f cdv A outer s H E) (cg0 K mg E F0 H) d.body t m) : FnBO P w K mg base x (k + 1) ps d (spL K mg ps.length (mFnL N.length m)) := by
  obtain ⟨fd, F⟩ := T.says.def_ i hd
  have e : He.fAd K d.at_ = He.ga K x := by rw [ha]; rfl
  rw [e] at F
  exact ⟨_, fd, T.glo j hx, F.kp, F, fn_lst F S fun cdv A outer s H F0 E hr => h _ cdv A outer s H F0 E hr (L2N.takes_of rfl rfl rfl rfl) (passes_of rfl)⟩
/-- called with n values, the last parameters by their defaults from the j-th on -/
theorem FnBO.at {x : Str} {k : Nat} {ps : List Str} {d : He.DefD} {sp : Sp} (B : FnBO P w K mg base x k ps d sp) (n j : Nat) {dds : List D} (hr : dvDs (d.dfl.drop j) = some dds) (hd : d.dfl ≠ []) (hn : n + (d.dfl.length - j) = ps.length)
    (h : ∀ (T : Addr) (kV doc pm : Value) (an : Option Addr) (cdv ct : Value) (us its : List Value), us.length = n → its.length = d.dfl.length →
      ∃ k, bindArgs (PySem.W.fnOf d.name d.qual d.params d.body d.scope (.ref T) kV doc pm an cdv ct) ⟨us, []⟩ = seqItems? (.ref T) >>= k ∧ k (some its.toArray) = pure (ps.zip (us ++ its.drop j))) : FnBD P w K mg base x k ps dds sp := by
  obtain ⟨f, fd, h1, h2, F, h3⟩ := B.ex
  have hl : (d.dvs K).length = d.dfl.length := by unfold He.DefD.dvs; rw [List.length_map]
  obtain ⟨ds, v1, v2⟩ := F.binds1 (ps := ps) n j (by unfold He.DefD.dvs; simpa using hd) (by rw [hl]; exact hn) fun T kV doc pm an cdv ct us its h4 h5 => h T kV doc pm an cdv ct us its h4 (by rw [h5, hl])
  refine ⟨f, fd, (d.dvs K).drop j, ds, h1, h2, v2, v1, fun F => ?_, h3⟩
  unfold He.DefD.dvs
  rw [← List.map_drop]
  exact dvDs_reps hr
end
/-! ### own lists -/
theorem FS.st {X : Cx} {C : Cg} {st : Stmt} {t : TS} {m : Env → SO} {i : Nat} (h : FS X C st t m) : FS X C st t (mSet1 i m) := h.settle i
/-- list * int, the new one not settled -/
def lrep : D → D → R (List D)
  | .lst a, .int k => if -1000000 ≤ k ∧ k ≤ 1000000 ∧ a.length * k.toNat ≤ 16777216 then .ok (List.replicate k.toNat a).flatten else .stuck
  | _, _ => .stuck
theorem lrep_ev (a : List D) (k : Int) (h : -1000000 ≤ k) (h' : k ≤ 1000000) (h2 : a.length * k.toNat ≤ 16777216) : lrep (.lst a) (.int k) = .ok (List.replicate k.toNat a).flatten := if_pos ⟨h, h', h2⟩
theorem ol_rep {C : Cg} : OpL C rRep lrep := fun d1 d2 v1 v2 F H E Q s r1 r2 p => by
  unfold lrep at p
  split at p
  · obtain ⟨p1, xs, rfl, h1, q1⟩ := r1.lst s
    have e2 := r2.int
    subst e2
    split at p
    · rename_i hc
      exact ⟨p1, _, xs, rfl, rfl, h1, by omega, by omega, by rw [q1.length, sizeLine_eq]; exact hc.2.2, fun z nz => p _ _ (Ext.raw s nz) z _ nz upd_same (sub_none s nz) (q1.rep _)⟩
    · exact p.elim
  · exact p.elim
def mSetIx (i : Nat) (mi mv : Env → R D) : Env → SO := fun Γ => lift Γ (mv Γ) fun v => match Γ[i]? with
  | some (.own ds) => lift Γ (mi Γ) fun x => (match x with
      | .int k => (match ixN ds.length k with
          | some j => .nx (Γ.set i (.own (ds.set j v)))
          | none => .stuck)
      | _ => .stuck)
  | _ => .stuck
section
variable {X : Cx} {C : Cg} {e ix : Expr} {te ti : TE} {me mi : Env → R D} {i : Nat} {x : Str} {xp sp' pos : Pos}
theorem fs_setIx (hv : PE X (.Name x xp) (tVar i)) (hi : FE X C ix ti mi) (he : FE X C e te me)
    (hs : swapsWithSole [.Subscript (.Name x xp) ix sp'] e pos.line X.env = pure false := by rfl) (hw : swappedStores [.Subscript (.Name x xp) ix sp'] e X.env = pure none := by rfl)
    (h1 : (assignEach [.Subscript (.Name x xp) ix sp'] X.env).map (·.2) = [assign (.Subscript (.Name x xp) ix sp') X.env] := by rfl)
    (ha : ∀ v, assign (.Subscript (.Name x xp) ix sp') X.env v = (do
      let ov ← holding [v] (eval (.Name x xp) X.env)
      let iv ← holding [v, ov] (eval ix X.env)
      standAt sp'
      holding [v, ov, iv] (setItem ov iv v)
      release [v, ov, iv] []) := by intro _; rfl) :
    FS X C (.Assign [.Subscript (.Name x xp) ix sp'] e pos) (tAsg te (gSub (tVar i) ti rSetL)) (mSetIx i mi me) :=
  ⟨ps_asg he.pe (pg_sub hv hi.pe set_list ha) hs hw h1, fun Γ σ F H D en p => he.rd Γ σ F H _ en (PostS.lift p en fun d F' H' x1 p1 v r => by
    split at p1
    · rename_i ds hd
      have en1 := en.step x1
      obtain ⟨o, h1, q, h2, xs, h3, h4, h5, rr⟩ := en1.slot i _ hd
      subst h2
      refine ⟨_, h1, hi.rd Γ σ F' H' _ en1 (PostS.lift p1 en1 fun y F2 H2 x2 p2 w r2 => ?_)⟩
      split at p2
      · split at p2
        · rename_i k j hj
          cases r2
          have g3 := x2.sH _ _ h3
          have g4 := x2.sep _ _ h3 h4
          have rr2 := rr.mono x2.sF
          exact ⟨q, xs, _, j, rfl, rfl, g3, by rw [rr2.length]; exact hj, p2 _ _ _ ((en1.step x2).mut (s := .own (ds.set j d)) hd rfl rfl h1 g4 h5 ⟨q, rfl, xs.set j v, upd_same, g4, h5, rr2.set j (r.mono x2.sF)⟩) (.refl _)⟩
        · exact p2.elim
      · exact p2.elim
    · exact p1.elim)⟩
/-- xs.reverse(), xs.clear() -/
def mMut0 (i : Nat) (f : List D → List D) : Env → SO := fun Γ => match Γ[i]? with
  | some (.own ds) => .nx (Γ.set i (.own (f ds)))
  | _ => .stuck
variable {apos cpos : Pos}
theorem fs_reverse (hv : PE X (.Name x xp) (tVar i)) (hbase : attributeBase (.Name x xp) "reverse" X.env (eval (.Name x xp) X.env) = eval (.Name x xp) X.env := by rfl) (hline : (apos.endLine == cpos.line) = true := by rfl)
    (hsw : swapsWith (.Call (.Attribute (.Name x xp) "reverse" apos) [] [] cpos) none pos.line X.env = pure false := by rfl) :
    FS X C (.Expr (.Call (.Attribute (.Name x xp) "reverse" apos) [] [] cpos) pos) (tDrop (tBM0 X.K "list" rReverse (tVar i))) (mMut0 i List.reverse) :=
  ⟨ps_expr (pe_bm0 PySem.F.plainAttrs_list PySem.F.slot_list_reverse PySem.F.type_list_reverse mt_reverse hv hbase hline) hsw, fun Γ σ F H D en p => by
    unfold mMut0 at p
    split at p
    · rename_i ds hd
      obtain ⟨o, h1, q, h2, xs, h3, h4, h5, r⟩ := en.slot i _ hd
      subst h2
      exact ⟨.ref q, h1, .inl ⟨rfl, _, SqL.of h3⟩, q, xs, rfl, rfl, h3, p _ _ _ (en.mut (s := .own ds.reverse) hd rfl rfl h1 h4 h5 ⟨q, rfl, xs.reverse, upd_same, h4, h5, r.reverse⟩) (.refl _)⟩
    · exact p.elim⟩
theorem fs_clear (hv : PE X (.Name x xp) (tVar i)) (hbase : attributeBase (.Name x xp) "clear" X.env (eval (.Name x xp) X.env) = eval (.Name x xp) X.env := by rfl) (hline : (apos.endLine == cpos.line) = true := by rfl)
    (hsw : swapsWith (.Call (.Attribute (.Name x xp) "clear" apos) [] [] cpos) none pos.line X.env = pure false := by rfl) :
    FS X C (.Expr (.Call (.Attribute (.Name x xp) "clear" apos) [] [] cpos) pos) (tDrop (tBM0 X.K "list" rClear (tVar i))) (mMut0 i fun _ => []) :=
  ⟨ps_expr (pe_bm0 PySem.F.plainAttrs_list PySem.F.slot_list_clear PySem.F.type_list_clear mt_clear hv hbase hline) hsw, fun Γ σ F H D en p => by
    unfold mMut0 at p
    split at p
    · rename_i ds hd
      obtain ⟨o, h1, q, h2, xs, h3, h4, h5, r⟩ := en.slot i _ hd
      subst h2
      exact ⟨.ref q, h1, .inl ⟨rfl, _, SqL.of h3⟩, q, xs, rfl, rfl, h3, p _ _ _ (en.mut (s := .own []) hd rfl rfl h1 h4 h5 ⟨q, rfl, [], upd_same, h4, h5, .nil⟩) (.refl _)⟩
    · exact p.elim⟩
end
def getOwn {α : Type} (k : List D → α) (z : α) : Option Slot → α
  | some (.own ds) => k ds
  | _ => z
theorem getOwn_own {α : Type} (k : List D → α) (z : α) (ds : List D) : getOwn k z (some (.own ds)) = k ds := rfl
theorem mMut0_ev {Γ : Env} (i : Nat) (f : List D → List D) : mMut0 i f Γ = getOwn (fun ds => .nx (Γ.set i (.own (f ds)))) .stuck Γ[i]? := by
  unfold mMut0 getOwn
  split <;> simp_all
def putIx (Γ : Env) (i : Nat) (ds : List D) (v x : D) : SO := match x with
  | .int k => (match ixN ds.length k with
      | some j => .nx (Γ.set i (.own (ds.set j v)))
      | none => .stuck)
  | _ => .stuck
theorem mSetIx_ev {Γ : Env} (i : Nat) (mi mv : Env → R D) : mSetIx i mi mv Γ = lift Γ (mv Γ) fun v => getOwn (fun ds => lift Γ (mi Γ) fun x => putIx Γ i ds v x) .stuck Γ[i]? := by
  have e : (fun v : D => (match Γ[i]? with
    | some (.own ds) => lift Γ (mi Γ) fun x => putIx Γ i ds v x
    | _ => SO.stuck)) = fun v => getOwn (fun ds => lift Γ (mi Γ) fun x => putIx Γ i ds v x) .stuck Γ[i]? := by
    funext v
    unfold getOwn
    split <;> simp_all
  rw [← e]
  rfl
theorem putIx_ok {Γ : Env} {i : Nat} {ds : List D} {v : D} (k : Int) (h : 0 ≤ k) (h' : k < ds.length) : putIx Γ i ds v (.int k) = .nx (Γ.set i (.own (ds.set k.toNat v))) := by
  unfold putIx
  have e : ixN ds.length k = some k.toNat := by
    unfold ixN
    simp only [h, h']
    simp <;> omega
  simp only [e]
/-! ### reversed(..) -/
def gRev : List D → R (List D)
  | [.lst ds] => .ok ds.reverse
  | _ => .stuck
theorem rev_lst (ds : List D) : gRev [.lst ds] = .ok ds.reverse := rfl
section
variable {X : Cx} {C : Cg} {tg e : Expr} {t : TA} {m : Env → R (List D)} {p pos : Pos}
theorem itv_ok {a : Addr} {xs : List V} {ds : List D} {F1 : Hp} (h : ∀ F H, Same F1 F → Same F H → SqL C.K H a xs) (r : Reps C.K C.mg F1 ds xs) : ItOk C (Itv C.K a xs.length) ds.reverse F1 :=
  ⟨fun F H s1 s2 => by show xs.length ≤ ds.reverse.length; rw [List.length_reverse, r.length]; exact Nat.le_refl _,
    fun F H i hi s1 s2 => by
      rw [List.length_reverse] at hi
      have l := r.length
      exact ⟨by omega, xs, xs[xs.length - 1 - i]'(by omega), h F H s1 s2, List.getElem?_eq_getElem _⟩,
    fun F H i d x H' hd s1 s2 y => by
      obtain ⟨e, y⟩ := y
      subst e
      have hi : i < ds.length := by
        have := (List.getElem?_eq_some_iff.mp hd).1
        simpa using this
      rw [List.getElem?_reverse hi] at hd
      obtain ⟨v, h1, h2⟩ := r.get hd
      have l := r.length
      have e2 : x = v := Option.some.inj ((y xs (h F _ s1 s2)).symm.trans (by rw [l]; exact h1))
      subst e2
      exact ⟨F, Ext.refl s2, h2.mono s1⟩⟩
theorem fi_rev (hK : X.K = C.K) (hg : Gl X "reversed") (hm : X.mg "reversed" = none) (ha : FA X C [e] t m) (hs : starEach [e] X.env = [(false, eval e X.env)] := by rfl) : FI X C tg (.Call (.Name "reversed" p) [e] [] pos) (iRev X.K t) (mCall gRev m) :=
  ⟨pi_reversed hg hm ha.pa hs, fun Γ σ F H Q en q => ha.rd Γ σ F H _ en (Post.bind q fun ds F1 H1 x1 p1 vs rs => by
    rw [hK]
    unfold gRev at p1
    split at p1
    · cases rs with
      | cons r rs =>
        cases rs
        cases r with
        | lst h r => exact ⟨_, _, rfl, .inl (.inl (x1.sub _ _ h)), p1 F1 H1 (Ext.refl x1.sub) _ (itv_ok (fun F2 H2 s1 s2 => .inl (.inl (s2 _ _ (s1 _ _ h)))) r)⟩
    · exact p1.elim)⟩
/-! ### a constant tuple, list of the module -/
def dvL : List He.Dv → List D := fun vs => (dvDs vs).getD []
theorem fe_gtup {x : Str} {A : Addr} {vs : List He.Dv} {ds : List D} {pos : Pos} (hK : X.K = C.K) (h : X.mg x = some (.ref A) ∧ ∀ H, SqT X.K H A (vs.map (He.Dv.v X.K))) (hg : Gl X x) (hd : dvDs vs = some ds) (hdb : (x == ("__debug__" : Str)) = false := by decide) : FE X C (.Name x pos) (tC (.ref A)) (mC (.tup ds)) :=
  fe_tC (pe_glob hg h.1 rfl hdb) fun F => .tup (by rw [← hK]; exact h.2 F) (dvDs_reps hd)
end
end FL

set_option Elab.async false
set_option linter.all false
set_option maxRecDepth 100000
set_option maxHeartbeats 2000000
/-! FL, part 15: one sign in a text: how often, where; rows of a text. -/
namespace FL
open PySem PySem.Spec PyProof.Rows L2
set_option autoImplicit false
/-! ### count, find, rfind of one sign -/
theorem cnt_count (c : Nat) : ∀ l : List Nat, cnt c l = (l.count c : Int)
  | [] => rfl
  | n :: r => by
    rw [cnt_cons, cnt_count c r, List.count_cons]
    by_cases h : n = c
    · simp [h]; omega
    · simp [h]
theorem count_sg (l : List Nat) (c : Nat) : Txt.count (mk l) (mk [c]) = (l.count c : Int) := by
  have h := count_is (mk l) c
  rw [mk_list] at h
  exact h.trans (cnt_count c l)
theorem mk_getD (l : List Nat) (v : Nat) : (mk l).cps.getD v 0 = l.getD v 0 := by
  show l.toArray.getD v 0 = _
  simp [Array.getD, List.getD]
  split
  · rename_i h; simp [h]
  · rename_i h; simp [List.getElem?_eq_none (Nat.le_of_not_lt h)]
/-- the first c from i on -/
theorem find3_sg (l : List Nat) (c i : Nat) (hi : i ≤ l.length) :
    (Txt.find3 (mk l) (mk [c]) (i : Int) = -1 ∧ ∀ v, i ≤ v → v < l.length → l.getD v 0 ≠ c) ∨
    ∃ k : Nat, Txt.find3 (mk l) (mk [c]) (i : Int) = (k : Int) ∧ i ≤ k ∧ k < l.length ∧ l.getD k 0 = c ∧ ∀ v, i ≤ v → v < k → l.getD v 0 ≠ c := by
  have hf : PySem.fromIndex (mk l).length (i : Int) = i := by
    unfold PySem.fromIndex
    rw [if_neg (by omega)]
    omega
  have h := StrLaws.find3_spec (mk l) c (i : Int)
  rw [hf, mk_len] at h
  simp only [mk_getD] at h
  exact h
theorem rfind_sg (l : List Nat) (c : Nat) :
    (Txt.rfind (mk l) (mk [c]) = -1 ∧ c ∉ l) ∨ ∃ k : Nat, Txt.rfind (mk l) (mk [c]) = (k : Int) ∧ l[k]? = some c ∧ ∀ v, k < v → l[v]? ≠ some c := by
  have e : Txt.rfind (mk l) (mk [c]) = (match Builtin.Str.lastOccurrence (mk l) ⟨#[c]⟩ 0 (mk l).length with | some i => (i : Int) | none => -1) := rfl
  rw [e]
  have at_ : ∀ i, StrLaws.At (mk l) ⟨#[c]⟩ (mk l).length i ↔ l[i]? = some c := fun i => by
    have := StrLaws.subAt_one (mk l) c i
    rw [mk_list] at this
    exact this
  rcases StrLaws.last_spec (mk l) ⟨#[c]⟩ with ⟨h1, h2⟩ | ⟨i, h1, h2, h3⟩
  · refine .inl ⟨by rw [h1], fun hm => ?_⟩
    obtain ⟨j, hj⟩ := List.getElem?_of_mem hm
    exact h2 j ((at_ j).mpr hj)
  · exact .inr ⟨i, by rw [h1], (at_ i).mp h2, fun v hv z => h3 v hv ((at_ v).mpr z)⟩
/-! ### rows -/
/-- the r-th row begins at b, ends at e -/
def IsB (l : List Nat) (r b : Nat) : Prop := b ≤ l.length ∧ (l.take b).count 10 = r ∧ (b = 0 ∨ l.getD (b - 1) 0 = 10)
def IsE (l : List Nat) (b e : Nat) : Prop := b ≤ e ∧ e ≤ l.length ∧ (∀ v, b ≤ v → v < e → l.getD v 0 ≠ 10) ∧ (e = l.length ∨ l.getD e 0 = 10)
theorem count_step {l : List Nat} {i : Nat} (h : i < l.length) : (l.take (i + 1)).count 10 = (l.take i).count 10 + if l.getD i 0 = 10 then 1 else 0 := by
  rw [List.take_add_one, List.count_append, List.getElem?_eq_getElem h, List.getD_eq_getElem?_getD, List.getElem?_eq_getElem h]
  by_cases q : l[i] = 10
  · simp [q]
  · simp [q, List.count_singleton]
theorem count_mono {l : List Nat} {a b : Nat} (h : a ≤ b) : (l.take a).count 10 ≤ (l.take b).count 10 := by
  have e : l.take b = l.take a ++ (l.drop a).take (b - a) := by
    rw [← List.take_add]; congr 1; omega
  rw [e, List.count_append]; omega
theorem count_none {l : List Nat} {a : Nat} : ∀ {b : Nat}, a ≤ b → b ≤ l.length → (∀ v, a ≤ v → v < b → l.getD v 0 ≠ 10) → (l.take b).count 10 = (l.take a).count 10
  | 0, h, _, _ => by rw [show a = 0 by omega]
  | b + 1, h, hb, hn => by
    by_cases q : a = b + 1
    · rw [q]
    · rw [count_step (by omega), if_neg (hn b (by omega) (by omega)), count_none (by omega) (by omega) fun v h1 h2 => hn v h1 (by omega)]; rfl
theorem count_hit {l : List Nat} {v a b : Nat} (h1 : a ≤ v) (h2 : v < b) (h3 : v < l.length) (h : l.getD v 0 = 10) : (l.take a).count 10 < (l.take b).count 10 := by
  have s := count_step h3
  rw [if_pos h] at s
  have m1 := count_mono (l := l) h1
  have m2 := count_mono (l := l) (show v + 1 ≤ b from h2)
  omega
theorem IsB.uniq {l : List Nat} {r b b' : Nat} (h : IsB l r b) (h' : IsB l r b') : b = b' := by
  obtain ⟨a1, a2, a3⟩ := h
  obtain ⟨c1, c2, c3⟩ := h'
  rcases Nat.lt_trichotomy b b' with q | q | q
  · rcases c3 with z | z
    · omega
    · have := count_hit (l := l) (v := b' - 1) (a := b) (b := b') (by omega) (by omega) (by omega) z
      omega
  · exact q
  · rcases a3 with z | z
    · omega
    · have := count_hit (l := l) (v := b - 1) (a := b') (b := b) (by omega) (by omega) (by omega) z
      omega
theorem IsE.uniq {l : List Nat} {b e e' : Nat} (h : IsE l b e) (h' : IsE l b e') : e = e' := by
  obtain ⟨a1, a2, a3, a4⟩ := h
  obtain ⟨c1, c2, c3, c4⟩ := h'
  rcases Nat.lt_trichotomy e e' with q | q | q
  · rcases a4 with z | z
    · omega
    · exact absurd z (c3 e a1 q)
  · exact q
  · rcases c4 with z | z
    · omega
    · exact absurd z (a3 e' c1 q)
/-- from a place of the row its end is that of the row -/
theorem IsE.from_ {l : List Nat} {b p e : Nat} (h : IsE l p e) (hbp : b ≤ p) (hn : ∀ v, b ≤ v → v < p → l.getD v 0 ≠ 10) : IsE l b e := by
  obtain ⟨a1, a2, a3, a4⟩ := h
  refine ⟨by omega, a2, fun v h1 h2 => ?_, a4⟩
  by_cases q : v < p
  · exact hn v h1 q
  · exact a3 v (by omega) h2
/-- the row of a place begins at or ahead of it, and no line feed stands between -/
theorem IsB.place {l : List Nat} {b p : Nat} (h : IsB l ((l.take p).count 10) b) (hp : p ≤ l.length) : b ≤ p ∧ ∀ v, b ≤ v → v < p → l.getD v 0 ≠ 10 := by
  obtain ⟨a1, a2, a3⟩ := h
  have hb : b ≤ p := by
    by_cases q : b ≤ p
    · exact q
    · rcases a3 with z | z
      · omega
      · have := count_hit (l := l) (v := b - 1) (a := p) (b := b) (by omega) (by omega) (by omega) z
        omega
  refine ⟨hb, fun v h1 h2 z => ?_⟩
  have := count_hit (l := l) (v := v) (a := b) (b := p) h1 h2 (by omega) z
  omega
theorem count_lt {l : List Nat} {p : Nat} : (l.take p).count 10 ≤ l.count 10 := by
  have := List.count_append (a := 10) (l₁ := l.take p) (l₂ := l.drop p)
  rw [List.take_append_drop] at this
  omega
/-! ### equal to itself -/
mutual
theorem eqv_self : ∀ d : D, d.pl = true → D.eqv d d = true
  | .non, _ => rfl
  | .bl b, _ => by cases b <;> rfl
  | .int i, _ => decide_eq_true rfl
  | .str s, _ => decide_eq_true rfl
  | .lst ds, h => eqvs_self ds h
  | .tup ds, h => eqvs_self ds h
  | .dct _, h => by cases h
  | .scr _, h => by cases h
  | .glo _, h => by cases h
  | .ty _, h => by cases h
  | .obj _ _, h => by cases h
theorem eqvs_self : ∀ ds : List D, D.pls ds = true → D.eqvs ds ds = true
  | [], _ => rfl
  | d :: ds, h => by
    obtain ⟨h1, h2⟩ := Bool.and_eq_true_iff.mp (show (D.pl d && D.pls ds) = true from h)
    show (D.eqv d d && D.eqvs ds ds) = true
    rw [eqv_self d h1, eqvs_self ds h2]; rfl
end
theorem eq_self {d : D} (h : d.pl = true) (h2 : d.dep ≤ 64) : D.eq d d = .ok (.bl true) := by
  have e : D.cmpOk d d = true := by unfold D.cmpOk; simp [h, h2]
  unfold D.eq
  rw [if_pos e, eqv_self d h]
theorem ne_self {d : D} (h : d.pl = true) (h2 : d.dep ≤ 64) : D.ne d d = .ok (.bl false) := by
  have e : D.cmpOk d d = true := by unfold D.cmpOk; simp [h, h2]
  unfold D.ne
  rw [if_pos e, eqv_self d h]; rfl
theorem pls_map {α : Type} {f : α → D} (h : ∀ x, (f x).pl = true) : ∀ xs : List α, D.pls (xs.map f) = true
  | [] => rfl
  | x :: xs => by
    show ((f x).pl && D.pls (xs.map f)) = true
    rw [h x, pls_map h xs]; rfl
theorem deps_map {α : Type} {f : α → D} {n : Nat} (h : ∀ x, (f x).dep ≤ n) : ∀ xs : List α, D.deps (xs.map f) ≤ n
  | [] => Nat.zero_le _
  | x :: xs => Nat.max_le.mpr ⟨h x, deps_map h xs⟩
/-- a splice; a row of splices -/
abbrev Sp3 := Int × List Nat × List Nat
def spd (s : Sp3) : D := .tup [.int s.1, .str s.2.1, .str s.2.2]
theorem spd_pl (s : Sp3) : (spd s).pl = true := rfl
theorem spd_dep (s : Sp3) : (spd s).dep ≤ 1 := Nat.le_refl 1
theorem spds_eq (S : List Sp3) : D.eq (.lst (S.map spd)) (.lst (S.map spd)) = .ok (.bl true) :=
  eq_self (pls_map spd_pl S) (Nat.succ_le_of_lt (Nat.lt_of_le_of_lt (deps_map spd_dep S) (by decide)))
theorem spds_ne (S : List Sp3) : D.ne (.lst (S.map spd)) (.lst (S.map spd)) = .ok (.bl false) :=
  ne_self (pls_map spd_pl S) (Nat.succ_le_of_lt (Nat.lt_of_le_of_lt (deps_map spd_dep S) (by decide)))
theorem nc0 : ((0 : Nat) : Int) = 0 := rfl
theorem nc1 : ((1 : Nat) : Int) = 1 := rfl
theorem nc2 : ((2 : Nat) : Int) = 2 := rfl
theorem nc3 : ((3 : Nat) : Int) = 3 := rfl
theorem nc4 : ((4 : Nat) : Int) = 4 := rfl
theorem nc5 : ((5 : Nat) : Int) = 5 := rfl
theorem nc6 : ((6 : Nat) : Int) = 6 := rfl
theorem nc7 : ((7 : Nat) : Int) = 7 := rfl
theorem nc8 : ((8 : Nat) : Int) = 8 := rfl
theorem nc9 : ((9 : Nat) : Int) = 9 := rfl
theorem nc10 : ((10 : Nat) : Int) = 10 := rfl
theorem nc11 : ((11 : Nat) : Int) = 11 := rfl
theorem nc12 : ((12 : Nat) : Int) = 12 := rfl
theorem nc13 : ((13 : Nat) : Int) = 13 := rfl
theorem cut_one (t : List Nat) (h : Nat) : cutL t (some (h : Int)) (some ((h : Int) + 1)) = if h < t.length then [t.getD h 0] else [] := by
  rw [cut_int _ _ _ (by omega) (by omega), show ((h : Int) + 1).toNat - (h : Int).toNat = 1 by omega, Int.toNat_natCast]
  by_cases q : h < t.length
  · rw [if_pos q, List.drop_eq_getElem_cons q, List.getD_eq_getElem?_getD, List.getElem?_eq_getElem q]; rfl
  · rw [if_neg q, List.drop_of_length_le (by omega)]; rfl
/-- None, or two places and a word -/
def r3 : Option (Int × Int × List Nat) → D
  | none => .non
  | some (a, b, s) => .tup [.int a, .int b, .str s]
theorem r3_eq (a b : Int) (s : List Nat) : D.eq (.tup [.int a, .int b, .str s]) (.tup [.int a, .int b, .str s]) = .ok (.bl true) := eq_self rfl (by show 1 ≤ 64; omega)
theorem ediv_abs (c d : Int) (hd : 0 < d) : (c / d).natAbs ≤ c.natAbs := by
  rcases Int.lt_or_le c 0 with h | h
  · have h1 : c / d < 0 := Int.ediv_neg_of_neg_of_pos h hd
    have h2 : c ≤ c / d := by
      have h3 := Int.mul_ediv_add_emod c d
      have h4 := Int.emod_nonneg c (by omega : d ≠ 0)
      have h5 := Int.emod_lt_of_pos c hd
      have h6 : c / d * d ≤ c / d * 1 := Int.mul_le_mul_of_nonpos_left (by omega) (by omega)
      rcases Int.lt_or_le (c / d) c with z | z
      · exfalso
        have h7 : (c / d) * d ≤ (c - 1) * d := Int.mul_le_mul_of_nonneg_right (by omega) (by omega)
        have h8 : d * (c / d) = (c / d) * d := Int.mul_comm _ _
        have h9 : (c - 1) * d = c * d - d := by rw [Int.sub_mul, Int.one_mul]
        have h10 : c * d ≤ c * 1 := Int.mul_le_mul_of_nonpos_left (by omega) (by omega)
        omega
      · exact z
    omega
  · have h1 : 0 ≤ c / d := Int.ediv_nonneg h (by omega)
    have h2 : c / d ≤ c := Int.ediv_le_self _ h
    omega
end FL

set_option Elab.async false
set_option linter.all false
set_option maxRecDepth 100000
set_option maxHeartbeats 2000000
/-! FL, part 16: what is never reached. -/
namespace FL
open PySem PySem.Spec PyProof.Rows L2
set_option autoImplicit false
def mStk {α : Type} : Env → R α := fun _ => .stuck
def sStk : Env → SO := fun _ => .stuck
section
variable {X : Cx} {C : Cg}
theorem fe_stuck {e : Expr} : FE X C e (fun _ _ _ => False) mStk := ⟨⟨fun _ _ _ _ _ _ h => h.elim⟩, fun _ _ _ _ _ _ p => p.elim⟩
theorem fl_stuck {e : Expr} : FL X C e (fun _ _ _ => False) mStk := ⟨⟨fun _ _ _ _ _ _ h => h.elim⟩, fun _ _ _ _ _ _ p => p.elim⟩
theorem ft_stuck {e : Expr} : FT X C e (fun _ _ _ => False) mStk := ⟨⟨fun _ _ _ _ _ _ h => h.elim⟩, fun _ _ _ _ _ _ p => p.elim⟩
theorem fs_stuck {s : Stmt} : FS X C s (fun _ _ _ => False) sStk := ⟨⟨fun _ _ _ _ _ _ h => h.elim⟩, fun _ _ _ _ _ _ p => p.elim⟩
theorem fi_stuck {tg e : Expr} : FI X C tg e (fun _ _ _ => False) mStk := ⟨⟨fun _ _ _ _ _ _ h => h.elim⟩, fun _ _ _ _ _ _ p => p.elim⟩
end
/-! ### range by a step -/
def gRange3X : List D → R (List D)
  | [.int i, .int j, .int c] => if c ≠ 0 ∧ c.natAbs < 1073741824 ∧ Builtin.Range.small i j c = true ∧ 0 ≤ Builtin.Range.rangeSize i j c then .ok (rngL i c (Builtin.Range.rangeSize i j c).toNat) else .stuck
  | _ => .stuck
section
variable {X : Cx} {C : Cg} {tg a b c : Expr} {t : TA} {m : Env → R (List D)} {p pos : Pos}
theorem fi_range3X (hg : Gl X "range") (hm : X.mg "range" = none) (ha : FA X C [a, b, c] t m) (hs : starEach [a, b, c] X.env = (false, eval a X.env) :: starEach [b, c] X.env := by rfl) (hpl : (backTo pos (starEach [b, c] X.env)).any (·.1) = false := by rfl) : FI X C tg (.Call (.Name "range" p) [a, b, c] [] pos) (iRng3 t) (mCall gRange3X m) :=
  ⟨pi_range3 hg hm ha.pa hs hpl, fun Γ σ F H Q en q => ha.rd Γ σ F H _ en (Post.bind q fun ds F1 H1 x1 p1 vs rs => by
    unfold gRange3X at p1
    split at p1
    · split at p1
      · rename_i i j c hj
        cases rs with
        | cons r rs =>
          cases rs with
          | cons r2 rs =>
            cases rs with
            | cons r3 rs =>
              cases rs
              cases r
              cases r2
              cases r3
              obtain ⟨h1, h2, h3, h4⟩ := hj
              exact ⟨i, j, c, _, rfl, ⟨h1, h2, h3, (Int.toNat_of_nonneg h4).symm⟩, p1 F1 H1 (Ext.refl x1.sub) _ itc_ok⟩
      · exact p1.elim
    · exact p1.elim)⟩
end
theorem range_by2 (i j : Int) (h : -1000000000 ≤ i) (h1 : i ≤ 1000000000) (h2 : -1000000000 ≤ j) (h3 : j ≤ 1000000000) : gRange3X [.int i, .int j, .int 2] = .ok (rngL i 2 (if i < j then ((j - i - 1) / 2 + 1).toNat else 0)) := by
  have e : Builtin.Range.rangeSize i j 2 = if i < j then (j - i - 1) / 2 + 1 else 0 := by unfold Builtin.Range.rangeSize; simp
  have s : Builtin.Range.small i j 2 = true := by
    unfold Builtin.Range.small
    rw [e]
    simp only [Builtin.Range.rangeFitsLong, Bool.and_eq_true, Bool.or_eq_true, decide_eq_true_eq, beq_iff_eq, show ((2 : Int) > 0) from by decide, if_true]
    split <;> omega
  have n : 0 ≤ Builtin.Range.rangeSize i j 2 := by rw [e]; split <;> omega
  show (if (2 : Int) ≠ 0 ∧ (2 : Int).natAbs < 1073741824 ∧ Builtin.Range.small i j 2 = true ∧ 0 ≤ Builtin.Range.rangeSize i j 2 then R.ok (rngL i 2 (Builtin.Range.rangeSize i j 2).toNat) else .stuck) = _
  rw [if_pos ⟨by decide, by decide, s, n⟩, e]
  split <;> rfl
end FL

set_option Elab.async false
set_option linter.all false
set_option maxRecDepth 100000
set_option maxHeartbeats 2000000
/-! FL, part 17: own lists lent to a def that tells a flat thing. -/
namespace FL
open PySem PySem.Spec PyProof.Rows L2
set_option autoImplicit false
/-- the lists that are read, settled for the while -/
theorem lend {C : Cg} {H : Hp} : ∀ {ds : List D} {vs : List V} {F : Hp}, Same F H → RepRs C F H ds vs → ∃ F', Same F F' ∧ Same F' H ∧ Reps C.K C.mg F' ds vs
  | _, _, F, s, .nil => ⟨F, .refl F, s, .nil⟩
  | _, _, F, s, .cons (d := d) (v := v) (ds := ds) (vs := vs) h r => by
    rcases h with h | ⟨p, es, xs, h1, h2, h3, h4, h5⟩
    · obtain ⟨F', g1, g2, g3⟩ := lend s r
      exact ⟨F', g1, g2, .cons (h.mono g1) g3⟩
    · subst h1 h2
      have s1 : Same F (upd F p (.lst xs)) := same_upd h4
      have s2 : Same (upd F p (.lst xs)) H := fun b x e => by
        by_cases hb : b = p
        · subst hb; rw [upd_same] at e; cases e; exact h3
        · rw [upd_ne hb] at e; exact s b x e
      have r' : RepRs C (upd F p (.lst xs)) H ds vs := by
        clear s2
        induction r with
        | nil => exact .nil
        | cons h' r' ih =>
          refine .cons ?_ ih
          rcases h' with h' | ⟨q, fs, ys, g1, g2, g3, g4, g5⟩
          · exact .inl (h'.mono s1)
          · by_cases hq : q = p
            · subst hq
              rw [h3] at g3
              cases g3
              refine .inl ?_
              subst g1 g2
              exact .lst upd_same (g5.mono s1)
            · exact .inr ⟨q, fs, ys, g1, g2, g3, by rw [upd_ne hq]; exact g4, g5.mono s1⟩
      obtain ⟨F', g1, g2, g3⟩ := lend s2 r'
      exact ⟨F', s1.trans g1, g2, .cons (.lst (g1 _ _ upd_same) ((h5.mono s1).mono g1)) g3⟩
theorem flat_any {K : PySem.W.Frag} {mg : Str → Option Value} {F F' : Hp} {d : D} {v : V} (h : Rep K mg F d v) (f : d.flat = true) : Rep K mg F' d v := by
  cases h <;> first | exact .non | exact .bl _ | exact .int _ | exact .str _ (by assumption) | cases f
def flatR (r : R D) : R D := match r with
  | .ok d => if d.flat = true then .ok d else .stuck
  | .exc n none => .exc n none
  | _ => .stuck
def mCallR (g : List D → R D) (m : Env → R (List D)) : Env → R D := fun Γ => m Γ >>= fun ds => flatR (g ds)
theorem mCallR_ev {Γ : Env} (g : List D → R D) (m : Env → R (List D)) : mCallR g m Γ = (m Γ >>= fun ds => flatR (g ds)) := rfl
theorem flatR_bl (b : Bool) : flatR (.ok (.bl b)) = .ok (.bl b) := rfl
theorem flatR_int (b : Int) : flatR (.ok (.int b)) = .ok (.int b) := rfl
theorem flatR_str (b : List Nat) : flatR (.ok (.str b)) = .ok (.str b) := rfl
theorem flatR_non : flatR (.ok .non) = .ok .non := rfl
theorem flatR_exc (n : Str) : flatR (.exc n none) = .exc n none := rfl
section
variable {X : Cx} {C : Cg} {k : Nat} {ps : List Str} {x : Str} {p pos : Pos} {e : Expr} {es : List Expr} {t : TA} {m : Env → R (List D)} {dds : List D}
theorem cal_rdR {g : List D → R D} {n : Nat} {es : List Expr} (hK : X.K = C.K) (hmg : X.mg = C.mg) (ha : FB X C es t m) (hn : es.length + dds.length = n) (hl : ∀ Γ ds, m Γ = .ok ds → ds.length = es.length) : ∀ Γ σ F H Q, EnvOk C Γ σ F H → Post C (WE C.W σ) F H (mCallR (fun ds => g (ds ++ dds)) m Γ) (kV C Q) → tCal (spV X.K X.mg n g) C.W dds X.K X.mg t σ H Q := fun Γ σ F H Q en p dvs hd => by
  unfold mCallR at p
  have hl' := hl Γ
  refine ha.rd Γ σ F H _ en ?_
  revert p hl'
  cases m Γ with
  | ok ds =>
    intro p hl' F' H' x' vs rs
    have p2 : Post C (WE C.W σ) F' H' (flatR (g (ds ++ dds))) (kV C Q) := Post.step (show Post C (WE C.W σ) F H (flatR (g (ds ++ dds))) (kV C Q) from p) x'
    obtain ⟨Fp, s1, s2, r1⟩ := lend x'.sub rs
    have r2 : Reps C.K C.mg Fp (ds ++ dds) (vs ++ dvs) := r1.append (by rw [← hK, ← hmg]; exact hd Fp)
    refine ⟨?_, Fp, ds ++ dds, s2, by rw [hK, hmg]; exact r2, ?_⟩
    · rw [r2.length, List.length_append, hl' ds rfl]; exact hn
    · revert p2
      have ex : ∀ {F2 H2 : Hp}, Ext Fp H' F2 H2 → Ext F' H' F' H2 := fun {F2 H2} x2 => ⟨.refl _, x2.sH, x'.sub.trans x2.sH, fun _ _ _ h => h⟩
      cases g (ds ++ dds) with
      | ok d =>
        intro p2
        unfold flatR at p2
        by_cases hf : d.flat = true
        · have p3 : Post C (WE C.W σ) F' H' (.ok d) (kV C Q) := by simpa [hf] using p2
          exact fun F2 H2 x2 v rv => p3 F' H2 (ex x2) v (by rw [← hK, ← hmg]; exact flat_any rv hf)
        · have p3 : Post C (WE C.W σ) F' H' .stuck (kV C Q) := by simpa [hf] using p2
          exact p3.elim
      | exc n d =>
        intro p2
        cases d with
        | none => exact fun F2 H2 cls dv x2 q => p2 F' H2 cls dv (ex x2) (by obtain ⟨q1, q2, q3⟩ := q; exact ⟨by rw [← hmg]; exact q1, q2, q3⟩)
        | some d => exact p2.elim
      | stuck => exact fun p2 => p2.elim
  | exc n d => exact fun p _ => p
  | stuck => exact fun p _ => p
/-- f(e, ..), own lists among the arguments; it tells a flat thing -/
theorem fe_callR {g : List D → R D} {n : Nat} (B : FnBD X.prog X.w X.K X.mg X.base x k ps dds (spV X.K X.mg n g)) (hK : X.K = C.K) (hmg : X.mg = C.mg) (hr : Room k X.A) (hg : Gl X x) (tk : L2N.Takes X C.W) (ha : FB X C (e :: es) t m) (hn : (e :: es).length + dds.length = n) (hl : ∀ Γ ds, m Γ = .ok ds → ds.length = (e :: es).length) (hdb : (x == ("__debug__" : Str)) = false := by decide) (he : starEach (e :: es) X.env = (false, eval e X.env) :: starEach es X.env := by rfl) (hpl : (backTo pos (starEach es X.env)).any (·.1) = false := by rfl) :
    FE X C (.Call (.Name x p) (e :: es) [] pos) (tCal (spV X.K X.mg n g) C.W dds X.K X.mg t) (mCallR (fun ds => g (ds ++ dds)) m) := ⟨cal_pe B hr hg tk ha.pa hdb he hpl, cal_rdR hK hmg ha hn hl⟩
end
end FL

set_option Elab.async false
set_option linter.all false
set_option maxRecDepth 100000
namespace FL
open PySem PySem.Spec PyProof.Rows L2
set_option autoImplicit false
/-! ### a text cut at its line feeds -/
def rowsA : List Nat → List Nat → List (List Nat)
  | acc, [] => [acc]
  | acc, c :: r => if c = 10 then acc :: rowsA [] r else rowsA (acc ++ [c]) r
def rowsOf (t : List Nat) : List (List Nat) := rowsA [] t
theorem spl_rows : ∀ (l acc : List Nat), TL.spl [10] 0 acc l = rowsA acc l
  | [], acc => TL.spl_nil _ _ _
  | c :: r, acc => by
    by_cases q : c = 10
    · have : TL.pre [10] (c :: r) = true := by rw [q]; rfl
      rw [TL.spl_hit this]
      show acc :: TL.spl [10] 0 [] r = if c = 10 then acc :: rowsA [] r else rowsA (acc ++ [c]) r
      rw [if_pos q, spl_rows r]
    · have : TL.pre [10] (c :: r) = false := by
        show ([c] == [10]) = false
        exact beq_eq_false_iff_ne.mpr fun z => q (List.cons.inj z).1
      rw [TL.spl_miss this, spl_rows r]
      show _ = if c = 10 then acc :: rowsA [] r else rowsA (acc ++ [c]) r
      rw [if_neg q]
theorem rowsA_mem : ∀ {l acc : List Nat} {p : List Nat}, p ∈ rowsA acc l → ∀ c ∈ p, c ∈ acc ∨ c ∈ l
  | [], acc, p, h, c, hc => by
    rw [List.mem_singleton.mp h] at hc; exact .inl hc
  | d :: r, acc, p, h, c, hc => by
    have h' : p ∈ if d = 10 then acc :: rowsA [] r else rowsA (acc ++ [d]) r := h
    split at h'
    · rcases List.mem_cons.mp h' with e | e
      · rw [e] at hc; exact .inl hc
      · rcases rowsA_mem e c hc with z | z
        · cases z
        · exact .inr (List.mem_cons_of_mem _ z)
    · rcases rowsA_mem h' c hc with z | z
      · rcases List.mem_append.mp z with z | z
        · exact .inl z
        · rw [List.mem_singleton.mp z]; exact .inr (List.mem_cons_self ..)
      · exact .inr (List.mem_cons_of_mem _ z)
theorem rowsA_le : ∀ {l acc : List Nat} {p : List Nat}, p ∈ rowsA acc l → p.length ≤ acc.length + l.length
  | [], acc, p, h => by rw [List.mem_singleton.mp h]; exact Nat.le_add_right _ _
  | d :: r, acc, p, h => by
    have h' : p ∈ if d = 10 then acc :: rowsA [] r else rowsA (acc ++ [d]) r := h
    rw [List.length_cons]
    split at h'
    · rcases List.mem_cons.mp h' with e | e
      · rw [e]; omega
      · have := rowsA_le e
        rw [List.length_nil] at this
        omega
    · have := rowsA_le h'
      rw [List.length_append, List.length_singleton] at this
      omega
theorem outL_of : ∀ {ss : List Str}, (∀ s ∈ ss, okS (TL.tl s)) → outL ss = .ok ((ss.map TL.tl).map D.str)
  | [], _ => rfl
  | s :: r, h => by
    show (outS s >>= fun d => outL r >>= fun ds => R.ok (d :: ds)) = _
    rw [outS_ok (mk_of s).symm (h s (List.mem_cons_self ..)), outL_of fun x hx => h x (List.mem_cons_of_mem _ hx)]
    rfl
theorem split_rows (t : List Nat) (h : okS t) (hl : t.length ≤ 16000000) : g_split t [.str [10]] = .ok ((rowsOf t).map D.str) := by
  show (if ([10] : List Nat) ≠ [] ∧ t.length + 2 ≤ 16777216 then outL (Txt.split (mk t) (mk [10])) else .stuck) = _
  rw [if_pos ⟨by simp, by omega⟩]
  have e : (Txt.split (mk t) (mk [10])).map TL.tl = rowsOf t := by
    rw [TL.split_spl (mk t) (mk [10]) (by simp [TL.tl, mk]) (TL.kind_ok (by simp [mk]))]
    exact spl_rows t []
  rw [outL_of, e]
  intro s hs c hc
  have : TL.tl s ∈ rowsOf t := by rw [← e]; exact List.mem_map_of_mem hs
  rcases rowsA_mem this c hc with z | z
  · cases z
  · exact h c z
/-- the begins of rows that stand from b on, and one behind the last's end -/
def hdsA : Nat → List (List Nat) → List Nat
  | _, [] => []
  | b, r :: rs => (b + r.length + 1) :: hdsA (b + r.length + 1) rs
def hds (t : List Nat) : List Nat := 0 :: hdsA 0 (rowsOf t)
theorem hdsA_len : ∀ (rs : List (List Nat)) (b : Nat), (hdsA b rs).length = rs.length
  | [], _ => rfl
  | r :: rs, b => by show (hdsA _ rs).length + 1 = _; rw [hdsA_len rs]; rfl
theorem hds_all : ∀ (l u acc : List Nat), (∀ c ∈ acc, c ≠ 10) → (u = [] ∨ u.getD (u.length - 1) 0 = 10) →
    (u.length :: hdsA u.length (rowsA acc l)).length = l.count 10 + 2 ∧
    (∀ j, j ≤ l.count 10 → IsB (u ++ acc ++ l) (u.count 10 + j) ((u.length :: hdsA u.length (rowsA acc l)).getD j 0)) ∧
    (u.length :: hdsA u.length (rowsA acc l)).getD (l.count 10 + 1) 0 = (u ++ acc ++ l).length + 1
  | [], u, acc, ha, hu => by
    refine ⟨rfl, fun j hj => ?_, ?_⟩
    · have hj0 : j = 0 := by simpa using hj
      subst hj0
      refine ⟨by simp, ?_, ?_⟩
      · show ((u ++ acc ++ []).take u.length).count 10 = _
        rw [List.append_nil, List.take_left, Nat.add_zero]
      · show u.length = 0 ∨ _
        rcases hu with hu | hu
        · left; rw [hu]; rfl
        · by_cases z : u.length = 0
          · exact .inl z
          right
          show (u ++ acc ++ []).getD (u.length - 1) 0 = 10
          rw [List.append_nil, List.getD_eq_getElem?_getD, List.getElem?_append_left (by omega), ← List.getD_eq_getElem?_getD]
          exact hu
    · show u.length + acc.length + 1 = _
      simp
  | c :: r, u, acc, ha, hu => by
    by_cases q : c = 10
    · subst q
      obtain ⟨i1, i2, i3⟩ := hds_all r (u ++ acc ++ [10]) [] (by simp) (.inr (by
        rw [List.length_append, List.getD_eq_getElem?_getD, List.getElem?_append_right (by simp)]
        simp))
      have eL : (u ++ acc ++ [10]).length = u.length + acc.length + 1 := by rw [List.length_append, List.length_append]; rfl
      have eT : u ++ acc ++ [10] ++ [] ++ r = u ++ acc ++ 10 :: r := by simp
      have eC : (u ++ acc ++ [10]).count 10 = u.count 10 + 1 := by
        rw [List.count_append, List.count_append, List.count_eq_zero.mpr fun h => ha 10 h rfl]; rfl
      have eR : rowsA acc (10 :: r) = acc :: rowsA [] r := if_pos rfl
      have eN : (10 :: r).count 10 = r.count 10 + 1 := List.count_cons_self
      rw [eT, eL] at i2 i3
      rw [eL] at i1
      rw [eR, eN]
      refine ⟨?_, fun j hj => ?_, ?_⟩
      · show ((u.length + acc.length + 1) :: hdsA (u.length + acc.length + 1) (rowsA [] r)).length + 1 = _
        rw [i1]
      · cases j with
        | zero =>
          refine ⟨by show u.length ≤ _; simp, ?_, ?_⟩
          · show ((u ++ acc ++ 10 :: r).take u.length).count 10 = _
            rw [List.append_assoc, List.take_left, Nat.add_zero]
          · show u.length = 0 ∨ (u ++ acc ++ 10 :: r).getD (u.length - 1) 0 = 10
            rcases hu with hu | hu
            · left; rw [hu]; rfl
            · by_cases z : u.length = 0
              · exact .inl z
              right
              rw [List.append_assoc, List.getD_eq_getElem?_getD, List.getElem?_append_left (by omega), ← List.getD_eq_getElem?_getD]
              exact hu
        | succ j =>
          have := i2 j (by omega)
          rw [eC, Nat.add_assoc, Nat.add_comm 1 j] at this
          exact this
      · exact i3
    · obtain ⟨i1, i2, i3⟩ := hds_all r u (acc ++ [c]) (fun x hx => by
        rcases List.mem_append.mp hx with h | h
        · exact ha x h
        · rw [List.mem_singleton.mp h]; exact q) hu
      have eT : u ++ (acc ++ [c]) ++ r = u ++ acc ++ c :: r := by simp
      have eR : rowsA acc (c :: r) = rowsA (acc ++ [c]) r := if_neg q
      have eN : (c :: r).count 10 = r.count 10 := List.count_cons_of_ne q
      rw [eT] at i2 i3
      rw [eR, eN]
      exact ⟨i1, i2, i3⟩
theorem hds_len (t : List Nat) : (hds t).length = t.count 10 + 2 := (hds_all t [] [] (by simp) (.inl rfl)).1
theorem hds_B {t : List Nat} {j : Nat} (h : j ≤ t.count 10) : IsB t j ((hds t).getD j 0) := by
  have := (hds_all t [] [] (by simp) (.inl rfl)).2.1 j h
  rw [show ([] : List Nat).count 10 = 0 from rfl, Nat.zero_add] at this
  exact this
theorem hds_end (t : List Nat) : (hds t).getD (t.count 10 + 1) 0 = t.length + 1 := (hds_all t [] [] (by simp) (.inl rfl)).2.2
/-- the next row begins behind a place just where the place is of the row or ahead -/
theorem hds_le {t : List Nat} {p i : Nat} (hp : p ≤ t.length) (h : i < t.count 10 + 1) : (hds t).getD (i + 1) 0 ≤ p ↔ i < (t.take p).count 10 := by
  by_cases q : i + 1 ≤ t.count 10
  · obtain ⟨a1, a2, a3⟩ := hds_B q
    constructor
    · intro z
      have := count_mono (l := t) z
      omega
    · intro z
      by_cases w : (hds t).getD (i + 1) 0 ≤ p
      · exact w
      · rcases a3 with a3 | a3
        · omega
        · have := count_hit (l := t) (v := (hds t).getD (i + 1) 0 - 1) (a := p) (b := (hds t).getD (i + 1) 0) (by omega) (by omega) (by omega) a3
          omega
  · have e : i = t.count 10 := by omega
    rw [e, hds_end]
    have := count_lt (l := t) (p := p)
    omega
/-- a row ends one ahead of the next's begin -/
theorem hds_E {t : List Nat} {i : Nat} (h : i < t.count 10 + 1) : IsE t ((hds t).getD i 0) ((hds t).getD (i + 1) 0 - 1) := by
  obtain ⟨a1, a2, a3⟩ := hds_B (show i ≤ t.count 10 by omega)
  by_cases q : i + 1 ≤ t.count 10
  · obtain ⟨c1, c2, c3⟩ := hds_B q
    have hlt : (hds t).getD i 0 < (hds t).getD (i + 1) 0 := by
      by_cases w : (hds t).getD i 0 < (hds t).getD (i + 1) 0
      · exact w
      · have := count_mono (l := t) (show (hds t).getD (i + 1) 0 ≤ (hds t).getD i 0 by omega)
        omega
    have c3 : t.getD ((hds t).getD (i + 1) 0 - 1) 0 = 10 := by
      rcases c3 with z | z
      · omega
      · exact z
    refine ⟨by omega, by omega, fun v h1 h2 z => ?_, .inr c3⟩
    have s1 := count_hit (l := t) (v := v) (a := (hds t).getD i 0) (b := (hds t).getD (i + 1) 0 - 1) h1 h2 (by omega) z
    have s2 := count_hit (l := t) (v := (hds t).getD (i + 1) 0 - 1) (a := (hds t).getD (i + 1) 0 - 1) (b := (hds t).getD (i + 1) 0) (by omega) (by omega) (by omega) c3
    omega
  · have e : i = t.count 10 := by omega
    rw [e, hds_end, Nat.add_sub_cancel]
    rw [e] at a1 a2
    refine ⟨a1, Nat.le_refl _, fun v h1 h2 z => ?_, .inl rfl⟩
    have := count_hit (l := t) (v := v) (a := (hds t).getD (t.count 10) 0) (b := t.length) h1 h2 (by omega) z
    rw [List.take_length] at this
    omega
theorem hds_bd {t : List Nat} {i : Nat} (h : i < t.count 10 + 2) : (hds t).getD i 0 ≤ t.length + 1 := by
  by_cases q : i ≤ t.count 10
  · have := (hds_B q).1; omega
  · have e : i = t.count 10 + 1 := by omega
    rw [e, hds_end]; exact Nat.le_refl _
theorem ix_lst_last {A : List D} {x : D} : D.ix (.lst (A ++ [x])) (.int (-1)) = .ok x := by
  have e : atI (A ++ [x]) (-1) = some x := by
    refine atI_iff.mpr ⟨A.length, ?_, by simp⟩
    unfold ixN
    rw [List.length_append, List.length_singleton]
    simp
    omega
  show (match atI (A ++ [x]) (-1) with | some d => R.ok d | none => .stuck) = _
  rw [e]
theorem hds_mono {t : List Nat} {i j : Nat} (h : i ≤ j) (hj : j < t.count 10 + 2) : (hds t).getD i 0 ≤ (hds t).getD j 0 := by
  by_cases q : j ≤ t.count 10
  · have a := hds_B (t := t) (j := i) (by omega)
    have b := hds_B (t := t) (j := j) q
    by_cases w : (hds t).getD i 0 ≤ (hds t).getD j 0
    · exact w
    · have := count_mono (l := t) (show (hds t).getD j 0 ≤ (hds t).getD i 0 by omega)
      rw [a.2.1, b.2.1] at this
      have e : i = j := by omega
      rw [e]; exact Nat.le_refl _
  · have e : j = t.count 10 + 1 := by omega
    by_cases z : i = j
    · rw [z]; exact Nat.le_refl _
    · have a := (hds_B (t := t) (j := i) (by omega)).1
      rw [e, hds_end]; omega
theorem hds_zero (t : List Nat) : (hds t).getD 0 0 = 0 := rfl
theorem hds_at {t : List Nat} {p : Nat} (hp : p ≤ t.length) : (hds t).getD ((t.take p).count 10) 0 ≤ p := by
  cases e : (t.take p).count 10 with
  | zero => rw [hds_zero]; exact Nat.zero_le _
  | succ i =>
    have h := count_lt (l := t) (p := p)
    exact (hds_le hp (by omega)).mpr (by omega)
theorem hds_near {t : List Nat} {p : Nat} (hp : p ≤ t.length) (xs : List Nat) (hxs : xs = (hds t).filter fun v => decide (v ≤ p)) : xs ≠ [] ∧ maxL (xs.map fun (v : Nat) => (v : Int)) = (((hds t).getD ((t.take p).count 10) 0 : Nat) : Int) := by
  have hc := count_lt (l := t) (p := p)
  have hl := hds_len t
  have hm : (hds t).getD ((t.take p).count 10) 0 ∈ xs := by
    rw [hxs]
    refine List.mem_filter.mpr ⟨?_, decide_eq_true (hds_at hp)⟩
    rw [List.getD_eq_getElem?_getD, List.getElem?_eq_getElem (by omega : (t.take p).count 10 < (hds t).length)]
    exact List.getElem_mem _
  have hne : xs ≠ [] := List.ne_nil_of_mem hm
  refine ⟨hne, ?_⟩
  obtain ⟨m1, m2⟩ := maxL_mem (ns := xs.map fun (v : Nat) => (v : Int)) (by simpa using hne)
  obtain ⟨v, hv, ev⟩ := List.mem_map.mp m1
  rw [← ev]
  have g1 := m2 _ (List.mem_map_of_mem hm)
  rw [← ev] at g1
  rw [hxs] at hv
  obtain ⟨hv1, hv2⟩ := List.mem_filter.mp hv
  have hv2 : v ≤ p := of_decide_eq_true hv2
  obtain ⟨j, hj, ej⟩ := List.getElem_of_mem hv1
  have ej' : (hds t).getD j 0 = v := by rw [List.getD_eq_getElem?_getD, List.getElem?_eq_getElem hj, ej]; rfl
  have hjr : j ≤ (t.take p).count 10 := by
    cases j with
    | zero => exact Nat.zero_le _
    | succ i => exact (hds_le (t := t) (p := p) (i := i) hp (by omega)).mp (by omega)
  have := hds_mono (t := t) hjr (by omega)
  have g1' : (((hds t).getD ((t.take p).count 10) 0 : Nat) : Int) ≤ (v : Int) := g1
  omega
theorem hds_next {t : List Nat} {p : Nat} (hp : p ≤ t.length) (xs : List Nat) (hxs : xs = (hds t).filter fun v => decide (p < v)) : xs ≠ [] ∧ minL (xs.map fun (v : Nat) => (v : Int)) = (((hds t).getD ((t.take p).count 10 + 1) 0 : Nat) : Int) := by
  have hc := count_lt (l := t) (p := p)
  have hl := hds_len t
  have hlt : p < (hds t).getD ((t.take p).count 10 + 1) 0 := by
    have := hds_le (t := t) (p := p) (i := (t.take p).count 10) hp (by omega)
    have : ¬ (hds t).getD ((t.take p).count 10 + 1) 0 ≤ p := fun z => Nat.lt_irrefl _ (this.mp z)
    omega
  have hm : (hds t).getD ((t.take p).count 10 + 1) 0 ∈ xs := by
    rw [hxs]
    refine List.mem_filter.mpr ⟨?_, decide_eq_true hlt⟩
    rw [List.getD_eq_getElem?_getD, List.getElem?_eq_getElem (by omega : (t.take p).count 10 + 1 < (hds t).length)]
    exact List.getElem_mem _
  have hne : xs ≠ [] := List.ne_nil_of_mem hm
  refine ⟨hne, ?_⟩
  obtain ⟨m1, m2⟩ := minL_mem (ns := xs.map fun (v : Nat) => (v : Int)) (by simpa using hne)
  obtain ⟨v, hv, ev⟩ := List.mem_map.mp m1
  rw [← ev]
  have g1 := m2 _ (List.mem_map_of_mem hm)
  rw [← ev] at g1
  rw [hxs] at hv
  obtain ⟨hv1, hv2⟩ := List.mem_filter.mp hv
  have hv2 : p < v := of_decide_eq_true hv2
  obtain ⟨j, hj, ej⟩ := List.getElem_of_mem hv1
  have ej' : (hds t).getD j 0 = v := by rw [List.getD_eq_getElem?_getD, List.getElem?_eq_getElem hj, ej]; rfl
  have hjr : (t.take p).count 10 + 1 ≤ j := by
    cases j with
    | zero => rw [hds_zero] at ej'; omega
    | succ i =>
      have := hds_le (t := t) (p := p) (i := i) hp (by omega)
      by_cases z : i < (t.take p).count 10
      · have := this.mpr z; omega
      · omega
  have := hds_mono (t := t) hjr (by omega)
  have g1' : (v : Int) ≤ (((hds t).getD ((t.take p).count 10 + 1) 0 : Nat) : Int) := g1
  omega
end FL

set_option Elab.async false
set_option linter.all false
set_option maxRecDepth 100000
namespace FL
open PySem PySem.Spec PyProof.Rows L2 L2H HotX
set_option autoImplicit false
/-! ### a def that is called in a suite, with the exception that is handled there -/
structure FnE (P : Program) (w : World) (K : PySem.W.Frag) (mg : Str → Option Value) (base : Heap) (CX : CXT) (k : Nat) (f : Addr) (fd : FuncData) (ps : List Str) (sp : Addr × Obj → Sp) : Prop where
  len : ∀ p vs H Q E, sp p vs H Q E → vs.length = ps.length
  run : ∀ (A : Around) (outer : List PySem.Env) (s : Shared) (H : Hp) (args : Args) (us : List Value) (vs : List V) (Q : VK) (E : XK) (p : Addr × Obj), RoomH k A → Hot1 A p → PinOk outer H s p → Env0 P w K mg base A outer s H → BindsTo s fd args (ps.zip us) → Vals vs us → sp p vs H Q E →
    codeAny (model P w) A (.call (.ref f) args) (CR CX outer P w H s Q E) s
section
variable {P : Program} {w : World} {K : PySem.W.Frag} {mg : Str → Option Value} {base : Heap} {CX : CXT} {k : Nat} {f : Addr} {fd : FuncData} {ps N : List Str} {sp : Addr × Obj → Sp} {x qual : Str} {params : Arguments} {body : List Stmt} {scope : Scope} {dvs : List V} {kws : List (Str × V)}
/-- one exception at a time: what FnH promises of the specification at p -/
theorem fnE_of (F : FunD K x qual params body scope dvs kws f fd) (S : FnScope N ps scope) (len : ∀ p vs H Q E, sp p vs H Q E → vs.length = ps.length)
    (hbody : ∀ (cdv : Value) (A : Around) (outer : List PySem.Env) (s : Shared) (H : Hp) (vs : List V) (Q : VK) (E : XK) (p : Addr × Obj), Hot1 A p → RoomH k (A.deeper (envOfC qual scope s.heap.objs.size f cdv)) → sp p vs H Q E →
      ∃ t, PSs (cxH CX P w K mg base N qual scope f cdv A outer s H E p) body t ∧ t { nx := fun _ H' => Q .non H', rt := Q } (L2.start N vs) H) : FnE P w K mg base CX (k + 1) f fd ps sp := by
  obtain ⟨oc, od, dV, kV, doc, pm, an, cdv, ct, osl, rfl, lk, hcd, _, _⟩ := F.ex
  refine ⟨len, fun A outer s H args us vs Q E p hr hot hpin e0 hb r hsp => ?_⟩
  have hl := len _ _ _ _ _ hsp
  have KX : K.In s.heap := e0.mod.kin.keeps fun b o e => (e0.bs b o e).1
  have lim : s.heap.NoLimit := e0.mod.nolimit.keeps fun b o e => (e0.bs b o e).1
  have hkind : ∀ y ∈ ps.zip us, scope.names.lookup y.1 = some .local ∨ (scope.names.lookup y.1 = some .cell ∧ ((cellsFrom (s.heap.objs.size + 1) scope.names []).lookup y.1).isSome = true) := fun ⟨n, v⟩ hy =>
    (S.par n (List.of_mem_zip hy).1).imp id fun q => ⟨q, PySem.W.cellsFrom_some _ _ _ (.inl q)⟩
  refine codeAny_call_function hr.depth (KX _ _ lk) rfl S.co S.gen rfl (PySem.W.codeRec_of KX hcd) (hb _ _ _ _ ?_)
  refine wpAny_newFunctionEnv_cells S.kind hkind fun env he s1 x1 => ?_
  subst he
  refine ⟨lim.keeps x1.toInCall.keep, codeAny_func ?_⟩
  obtain ⟨t, ht, hq⟩ := hbody cdv A outer s H vs Q E p hot (hr.deeper _) hsp
  refine wpAny_mono (ht.run [] s1 (L2.start N vs) H _ (inv_startH S hpin e0 hl r x1) hq) (fun fl s' hs => ?_) fun e s' hs => hs
  cases fl with
  | ret u => obtain ⟨v, σ', H', J, rv, q⟩ := hs; exact ⟨v, H', J.os, J.bare, J.base, J.hok, rv, q⟩
  | next => obtain ⟨σ', H', J, q⟩ := hs; exact ⟨V.non, H', J.os, J.bare, J.base, J.hok, rfl, q⟩
  | brk => obtain ⟨_, _, _, q⟩ := hs; exact q.elim
  | cont => obtain ⟨_, _, _, q⟩ := hs; exact q.elim
end
section
variable {X : Cx} {CX : CXT} {k : Nat} {f : Addr} {fd : FuncData} {ps : List Str} {sp : Addr × Obj → Sp} {E : St → XK} {x : Str} {q pos : Pos} {e : Expr} {es : List Expr} {t : TA}
theorem run_fnE {pins : List (Addr × Obj)} {σ : St} {H : Hp} {s : Shared} {Q : VK} {us : List Value} {vs : List V} {p : Addr × Obj} (F : FnE X.prog X.w X.K X.mg X.base CX k f fd ps sp) (hr : RoomH k X.A) (hot : Hot1 X.A p) (hp : p ∈ X.pn) (hb : Binds X.K fd ps []) (hx : PassesAt CX X σ (E σ))
    (I : Inv X pins σ H s) (r : Vals vs us) (h : sp p vs H Q (E σ)) : wpAny (model X.prog X.w) X.A (call (.ref f) us) (EP X pins σ Q) X.xe s := by
  have hl : us.length = ps.length := by rw [← r.length]; exact F.len _ _ _ _ _ h
  have b := hb s us I.kIn (by rw [List.append_nil]; exact hl)
  rw [List.append_nil] at b
  obtain ⟨p1, p2, p3, p4⟩ := I.pin p (List.mem_append_left _ hp)
  have hpin : PinOk X.stack H s p := ⟨p1, p2, fun hm => (List.mem_cons.mp (I.stkSub p.1 hm)).elim p3 p4.1, p4.2⟩
  refine wpAny_call (codeAny_mono (F.run X.A X.stack s H ⟨us, []⟩ us vs Q (E σ) p hr hot hpin I.env0 b r h) fun r s' hq => ?_)
  cases r with
  | error e => exact hx pins H s e s' I hq
  | ok fl =>
    cases fl with
    | ret u => exact I.after hq
    | next => exact hq.elim
    | brk => exact hq.elim
    | cont => exact hq.elim
theorem pe_callE {p : Addr × Obj} (F : FnE X.prog X.w X.K X.mg X.base CX k f fd ps sp) (hr : RoomH k X.A) (hot : Hot1 X.A p) (hp : p ∈ X.pn) (hg : Gl X x) (hm : X.mg x = some (.ref f)) (hk : PySem.W.keepIn X.K (.ref f) = true) (hb : Binds X.K fd ps []) (hx : ∀ σ, PassesAt CX X σ (E σ))
    (ha : PA X (e :: es) t) (hdb : (x == ("__debug__" : Str)) = false := by decide) (he : starEach (e :: es) X.env = (false, eval e X.env) :: starEach es X.env := by rfl) (hpl : (backTo pos (starEach es X.env)).any (·.1) = false := by rfl) :
    PE X (.Call (.Name x q) (e :: es) [] pos) (tCallS (sp p) E t) :=
  ⟨fun pins s σ H Q I h => wpAny_Call_Name_kw (ld_glob I hg hm (PySem.W.callWith_K (h₀ := X.base) I.ok.mod.kin hk (thn (ha.run pos pins s σ H _ I h) fun us s1 ⟨vs, H1, I1, r, y⟩ => ⟨I1.kIn, run_fnE F hr hot hp hb (hx σ) I1 r y⟩) he hpl) hdb)⟩
end
/-! ### isinstance of it there -/
theorem mark_self {A : Around} {v : Value} (h : A.handled = some v) : A.mark (some v) = A := by
  cases A; cases h; rfl
theorem call_isEH {X : Cx} {a D : Addr} {oe : Obj} {pn : List (Addr × Obj)} (hA : X.A.handled = some (.ref a)) (hc : X.calm = false) (hp : X.pn = (a, oe) :: pn) (hC : ExcC X.K D) (hz : Zc (.ref D) none oe) (hf : ∃ vs, oe.data = .fields vs) : CallR X (.builtin "isinstance") (rIsE X.K D a) := by
  have ex : suiteX X a ((a, oe) :: pn) = X := by
    show ({ X with A := X.A.mark (some (.ref a)), calm := false, pn := (a, oe) :: pn } : Cx) = X
    rw [mark_self hA, ← hc, ← hp]
  intro pins s σ H xs us Q I r h
  have J : Inv (X.suite a ((a, oe) :: pn)) pins σ H s := (show Inv (suiteX X a ((a, oe) :: pn)) pins σ H s by rw [ex]; exact I).wish fun _ _ => False
  have g := call_isE (X := X) (pn := pn) hC hz hf pins s σ H xs us Q J r h
  have g2 : wpAny (model X.prog X.w) (X.A.mark (some (.ref a))) (call (.builtin "isinstance") us) (EP (X.suite a ((a, oe) :: pn)) pins σ Q) (fun _ _ => False) s := g
  rw [mark_self hA] at g2
  refine wpAny_mono g2 (fun u s' hu => ?_) fun e s' hs => hs.elim
  obtain ⟨v, H', J', rv, q⟩ := hu
  refine ⟨v, H', ?_, rv, q⟩
  have J2 := suiteX_of J'
  rw [ex] at J2
  exact J2
/-! isinstance(e, Y) in such a def's body -/
section
variable {X : Cx} {C : Cg} {nm x y : Str} {i : Nat} {a : Addr} {oe : Obj} {pn : List (Addr × Obj)} {cls : Value} {d : Option Addr} {n : Str} {tab : List (Str × Bool)} {np q pos p1 p2 : Pos} {k : Nat} {ps : List Str}
theorem fe_isEH (hot : X.A.handled = some (.ref a)) (hcm : X.calm = false) (hpn : X.pn = (a, oe) :: pn) (hz : L2N.Zn cls d oe) (hv : ∃ vs, oe.data = .fields vs) (hK : X.K = C.K) (hmg : X.mg = C.mg)
    (he : PE X (.Name nm p1) (tVar i)) (hg : Gl X y) (hmy : X.mg y = some (.ref (He.ga X.K y))) (hg2 : Gl X "isinstance") (hm2 : X.mg "isinstance" = none)
    (ht : ∀ p ∈ tab, X.mg p.1 = some (.ref (He.ga X.K p.1)) ∧ ExcC X.K (He.ga X.K p.1) ∧ PySem.W.kitOne X.K (.ref (He.ga X.K p.1)) (.ref (He.ga X.K y)) = some p.2) (hdy : (y == ("__debug__" : Str)) = false := by decide)
    (hst : starEach [.Name nm p1, .Name y p2] X.env = (false, eval (.Name nm p1) X.env) :: starEach [.Name y p2] X.env := by rfl) (hst2 : starEach [.Name y p2] X.env = (false, eval (.Name y p2) X.env) :: starEach [] X.env := by rfl)
    (hpl : (backTo pos (starEach [.Name y p2] X.env)).any (·.1) = false := by rfl) :
    FE X (C.su i a cls d n) (.Call (.Name "isinstance" np) [.Name nm p1, .Name y p2] [] pos) (tIsE X.K cls d i a (.ref (He.ga X.K y))) (mIsE tab n) := by
  refine ⟨⟨fun pins s σ H Q I h => ?_⟩, isE_rd hK (fun p hp => by rw [← hmg]; exact ht p hp)⟩
  obtain ⟨D, b, rfl, rfl, g2, g3, g4, q⟩ := h
  refine (pe_callB (call_isEH hot hcm hpn g2 hz.zc hv) hg2 hm2 (by decide +kernel) (pa_cons he (pa_cons (pe_glob (v := .ref (He.ga X.K y)) hg hmy rfl hdy) pa_nil hst2) hst) (by decide) (by decide) hst hpl).run pins s σ H Q I ?_
  exact ⟨_, g4, .ref (He.ga X.K y), .ref (He.ga X.K y), b, rfl, fun u hu => hu, g3, q⟩
theorem fe_isETH {t : String} (hot : X.A.handled = some (.ref a)) (hcm : X.calm = false) (hpn : X.pn = (a, oe) :: pn) (hz : L2N.Zn cls d oe) (hv : ∃ vs, oe.data = .fields vs) (hK : X.K = C.K) (hmg : X.mg = C.mg)
    (he : PE X (.Name nm p1) (tVar i)) (hg : Gl X y) (hmy : X.mg y = none) (hby : bootBuiltins y = some (.type t)) (hg2 : Gl X "isinstance") (hm2 : X.mg "isinstance" = none)
    (ht : ∀ p ∈ tab, X.mg p.1 = some (.ref (He.ga X.K p.1)) ∧ ExcC X.K (He.ga X.K p.1) ∧ PySem.W.kitOne X.K (.ref (He.ga X.K p.1)) (.type t) = some p.2) (hny : y ≠ "__name__" := by decide) (hdy : (y == ("__debug__" : Str)) = false := by decide)
    (hst : starEach [.Name nm p1, .Name y p2] X.env = (false, eval (.Name nm p1) X.env) :: starEach [.Name y p2] X.env := by rfl) (hst2 : starEach [.Name y p2] X.env = (false, eval (.Name y p2) X.env) :: starEach [] X.env := by rfl)
    (hpl : (backTo pos (starEach [.Name y p2] X.env)).any (·.1) = false := by rfl) :
    FE X (C.su i a cls d n) (.Call (.Name "isinstance" np) [.Name nm p1, .Name y p2] [] pos) (tIsE X.K cls d i a (.type t)) (mIsE tab n) := by
  refine ⟨⟨fun pins s σ H Q I h => ?_⟩, isE_rd hK (fun p hp => by rw [← hmg]; exact ht p hp)⟩
  obtain ⟨D, b, rfl, rfl, g2, g3, g4, q⟩ := h
  refine (pe_callB (call_isEH hot hcm hpn g2 hz.zc hv) hg2 hm2 (by decide +kernel) (pa_cons he (pa_cons (pe_bltn (v := .ty t) hg hmy hby rfl hny hdy) pa_nil hst2) hst) (by decide) (by decide) hst hpl).run pins s σ H Q I ?_
  exact ⟨_, g4, .ty t, .type t, b, rfl, fun u hu => hu, g3, q⟩
end
/-! ### such a def by its plain function -/
/-- what is known of the exception -/
def ExcIs (mg : Str → Option Value) (p : Addr × Obj) (n : Str) (cls : Value) : Prop := L2N.Zn cls none p.2 ∧ (∃ us, p.2.data = .fields us) ∧ mg n = some cls ∧ ∃ A, cls = .ref A
def spLE (K : PySem.W.Frag) (mg : Str → Option Value) (g : Str → R (List D)) : Addr × Obj → Sp := fun p vs H Q E => ∃ n cls F, vs = [.ref p.1] ∧ ExcIs mg p n cls ∧ Same F H ∧ Post (cg0 K mg E F H) E F H (g n) (kL (cg0 K mg E F H) H Q)
def spVE (K : PySem.W.Frag) (mg : Str → Option Value) (g : Str → R D) : Addr × Obj → Sp := fun p vs H Q E => ∃ n cls F, vs = [.ref p.1] ∧ ExcIs mg p n cls ∧ Same F H ∧ Post (cg0 K mg E F H) E F H (g n) (kV (cg0 K mg E F H) Q)
def retLE : SO → R (List D)
  | .rtL ds => .ok ds
  | _ => .stuck
def retDE : SO → R D
  | .nx _ => .ok .non
  | .rt d => .ok d
  | .rtL ds => .ok (.lst ds)
  | _ => .stuck
theorem retLE_rtL (ds : List D) : retLE (.rtL ds) = .ok ds := rfl
theorem retDE_rt (d : D) : retDE (.rt d) = .ok d := rfl
def mFnLE (k : Nat) (m : Str → Env → SO) : Str → R (List D) := fun n => retLE (m n (List.replicate k .no))
def mFnE (k : Nat) (m : Str → Env → SO) : Str → R D := fun n => retDE (m n (List.replicate k .no))
structure FnBE (P : Program) (w : World) (K : PySem.W.Frag) (mg : Str → Option Value) (base : Heap) (x : Str) (k : Nat) (y : Str) (sp : Addr × Obj → Sp) : Prop where
  ex : ∃ f fd, mg x = some (.ref f) ∧ PySem.W.keepIn K (.ref f) = true ∧ (∀ (s : Shared) (us : List Value), us.length = [y].length → BindsTo s fd ⟨us, []⟩ ([y].zip us)) ∧ FnE P w K mg base (L2N.CX P w) k f fd [y] sp
theorem env_startE {K : PySem.W.Frag} {mg : Str → Option Value} {E : XK} {F H : Hp} {N : List Str} {p : Addr × Obj} {n : Str} {cls : Value} (s : Same F H) (hx : ExcIs mg p n cls) (hl : 1 ≤ N.length) : EnvOk ((cg0 K mg E F H).su 0 p.1 cls none n) (List.replicate N.length .no) (L2.start N [.ref p.1]) F H := by
  refine ⟨Ext.refl s, ⟨rfl, hx.2.2.1, hx.2.2.2, rfl⟩, ?_, fun i t h => ?_, fun i j t u q h1 h2 o1 => ?_⟩
  · unfold L2.start
    simp
    omega
  · rw [List.getElem?_replicate] at h
    split at h
    · rename_i hi
      cases h
      have hi' : i < (L2.start N [V.ref p.1]).length := by
        unfold L2.start
        simp
        omega
      exact ⟨_, List.getElem?_eq_getElem hi', trivial⟩
    · cases h
  · rw [List.getElem?_replicate] at h1
    split at h1
    · cases h1; cases o1
    · cases h1
section
variable {fa : List He.Fa} {fn : List He.DefD} {K : PySem.W.Frag} {mg : Str → Option Value} {P : Program} {w : World} {base : Heap}
theorem Tx.fnbLE (T : Tx fa fn K mg) (i j : Nat) {d : He.DefD} {x y : Str} {N : List Str} {k : Nat} {m : Str → Env → SO} (hd : fn[i]? = some d) (hx : fa[j]? = some (.glo x)) (ha : d.at_ = (x, none)) (hdf : d.dfl = []) (S : FnScope N [y] d.scope)
    (hb : ∀ (kV doc pm : Value) (an : Option Addr) (cdv ct : Value) (us : List Value), us.length = [y].length → bindArgs (PySem.W.fnOf d.name d.qual d.params d.body d.scope .none kV doc pm an cdv ct) ⟨us, []⟩ = pure ([y].zip us))
    (h : ∀ (f : Addr) (cdv : Value) (A : Around) (outer : List PySem.Env) (s : Shared) (H F0 : Hp) (E : XK) (a : Addr) (oe : Obj) (n : Str) (cls : Value), (A.deeper (envOfC d.qual d.scope s.heap.objs.size f cdv)).handled = some (.ref a) → L2N.Zn cls none oe → (∃ us, oe.data = .fields us) →
      PassesOwn (model P w) (A.deeper (envOfC d.qual d.scope s.heap.objs.size f cdv)) (envOfC d.qual d.scope s.heap.objs.size f cdv) (cxOf (L2N.CX P w) P w K mg base N d.qual d.scope f cdv A outer s H E).xe →
      ∃ t, FB2 (cxH (L2N.CX P w) P w K mg base N d.qual d.scope f cdv A outer s H E (a, oe)) ((cg0 K mg E F0 H).su 0 a cls none n) d.body t (m n)) : FnBE P w K mg base x (k + 1) y (spLE K mg (mFnLE N.length m)) := by
  obtain ⟨fd, F⟩ := T.says.def_ i hd
  have e : He.fAd K d.at_ = He.ga K x := by rw [ha]; rfl
  rw [e] at F
  have e2 : d.dvs K = [] := by
    show d.dfl.map (He.Dv.v K) = []
    rw [hdf]; rfl
  rw [e2] at F
  refine ⟨_, fd, T.glo j hx, F.kp, F.bindsA hb, fnE_of F S (fun p vs H Q E ⟨_, _, _, e, _⟩ => by rw [e]; rfl) fun cdv A outer s H vs Q E p hot hr hsp => ?_⟩
  obtain ⟨n, cls, F0, rfl, hx, sF, po⟩ := hsp
  obtain ⟨a, oe⟩ := p
  obtain ⟨t, hbd⟩ := h _ cdv A outer s H F0 E a oe n cls hot.1 hx.1 hx.2.1 (passes_of rfl)
  have hN : 1 ≤ N.length := by
    have := congrArg List.length S.pre
    rw [List.length_take] at this
    have e : [y].length = 1 := rfl
    omega
  refine ⟨t, hbd.ps, hbd.rd _ _ F0 H _ (env_startE sF hx hN) ?_⟩
  unfold mFnLE at po
  revert po
  cases m n (List.replicate N.length .no) with
  | nx Γ => exact fun p => p.elim
  | rt d => exact fun p => p.elim
  | rtL d => exact fun p q xs F' H' e n nF hq r => p F' H' e q xs n hq nF r
  | bk Γ => exact fun p => p.elim
  | ct Γ => exact fun p => p.elim
  | ex Γ n d => exact fun p => p.elim
  | stuck => exact fun p => p.elim
end
section
variable {X : Cx} {C : Cg} {nm x y : Str} {i : Nat} {a : Addr} {oe : Obj} {pn : List (Addr × Obj)} {cls : Value} {d : Option Addr} {n : Str} {q pos p1 : Pos} {k : Nat}
def mCallE {α : Type} (g : Str → R α) (n : Str) : Env → R α := fun _ => g n
theorem fl_callE {g : Str → R (List D)} (B : FnBE X.prog X.w X.K X.mg X.base x k y (spLE X.K X.mg g)) (hz : L2N.Zn cls d oe) (hv : ∃ vs, oe.data = .fields vs) (hK : X.K = C.K) (hmg : X.mg = C.mg) (hr : Room k X.A)
    (he : PE (X.suite a ((a, oe) :: pn)) (.Name nm p1) (tVar i)) (hg : Gl (X.suite a ((a, oe) :: pn)) x) (hdb : (x == ("__debug__" : Str)) = false := by decide)
    (hst : starEach [.Name nm p1] (X.suite a ((a, oe) :: pn)).env = (false, eval (.Name nm p1) (X.suite a ((a, oe) :: pn)).env) :: starEach [] (X.suite a ((a, oe) :: pn)).env := by rfl)
    (hpl : (backTo pos (starEach [] (X.suite a ((a, oe) :: pn)).env)).any (·.1) = false := by rfl) :
    FL (X.suite a ((a, oe) :: pn)) (C.su i a cls d n) (.Call (.Name x q) [.Name nm p1] [] pos) (tCallS (spLE X.K X.mg g (a, oe)) (fun σ => WE (C.su i a cls d n).W σ) (tCons (tVar i) tNil)) (mCallE g n) := by
  obtain ⟨f, fd, h1, h2, h3, h4⟩ := B.ex
  obtain ⟨vs, hvs⟩ := hv
  have hot : Hot1 (X.suite a ((a, oe) :: pn)).A (a, oe) := ⟨rfl, vs, hvs, hz.2.2 vs hvs⟩
  refine ⟨pe_callE (X := X.suite a ((a, oe) :: pn)) (p := (a, oe)) h4 ⟨hr.dp, hr.un⟩ hot (List.mem_cons_self ..) hg h1 h2 (fun s us _ hl => by rw [List.append_nil] at hl ⊢; exact h3 s us hl) (fun σ => L2N.passAt takesS σ) (pa_cons he pa_nil hst) hdb hst hpl, fun Γ σ F H Q en p => ?_⟩
  obtain ⟨g1, g2, ⟨A, rfl⟩, rfl⟩ := en.pre
  refine ⟨_, g1, n, .ref A, F, rfl, ⟨hz, ⟨vs, hvs⟩, by rw [hmg]; exact g2, A, rfl⟩, en.sub, ?_⟩
  unfold mCallE at p
  rw [hK, hmg]
  revert p
  cases g n with
  | ok ds => exact fun p => p
  | exc n d => exact fun p F' H' cls dv e q => p F' H' cls dv e q
  | stuck => exact fun p => p
end
end FL

set_option Elab.async false
set_option linter.all false
set_option maxRecDepth 100000
namespace FL
open PySem PySem.Spec PyProof.Rows L2
set_option autoImplicit false
/-! ### numbers to 999 as texts -/
def dg (c : Nat) : List Nat := if c < 10 then [48 + c] else if c < 100 then [48 + c / 10, 48 + c % 10] else [48 + c / 100, 48 + c / 10 % 10, 48 + c % 10]
theorem numL_dg {c : Nat} (h : c < 1000) : TL.numL c = dg c := by
  unfold dg
  by_cases q : c < 10
  · rw [if_pos q, TL.numL_lt q]
  · rw [if_neg q, TL.numL_step (by omega)]
    by_cases q2 : c < 100
    · rw [if_pos q2, TL.numL_lt (by omega)]; rfl
    · rw [if_neg q2, TL.numL_step (by omega), TL.numL_lt (by omega)]
      show [48 + c / 10 / 10, 48 + c / 10 % 10, 48 + c % 10] = _
      rw [Nat.div_div_eq_div_mul]
theorem mk_dg {c : Nat} (h : c < 1000) : Str.ofString (toString ((c : Nat) : Int)) = mk (dg c) := by
  have e := TL.tl_num c
  rw [numL_dg h] at e
  rw [← e]
  exact (mk_of _).symm
theorem dg_mem {c d : Nat} (h : c < 1000) (hd : d ∈ dg c) : 48 ≤ d ∧ d ≤ 57 := by
  unfold dg at hd
  split at hd
  · simp at hd; omega
  · split at hd
    · simp at hd; omega
    · simp at hd; omega
theorem dg_len (c : Nat) : 1 ≤ (dg c).length ∧ (dg c).length ≤ 3 := by
  unfold dg
  split
  · simp
  · split <;> simp
theorem dg_head {c : Nat} (h : c < 1000) (h' : 1 ≤ c) : (dg c).getD 0 0 ≠ 48 := by
  unfold dg
  split
  · show 48 + c ≠ 48; omega
  · split
    · show 48 + c / 10 ≠ 48; omega
    · show 48 + c / 100 ≠ 48; omega
theorem str_dg {c : Nat} (h : c < 1000) : gStr [.int (c : Int)] = .ok (.str (dg c)) := by
  have hl : (c : Int).natAbs.log2 < 1920 := by
    rw [Int.natAbs_natCast]
    by_cases z : c = 0
    · rw [z]; decide
    · exact (Nat.log2_lt z).mpr (Nat.lt_of_lt_of_le h (by decide))
  show (if (c : Int).natAbs.log2 < 1920 then outS (Str.ofString (toString (c : Int))) else .stuck) = _
  rw [if_pos hl]
  exact outS_ok (mk_dg h) fun d hd => by have := dg_mem h hd; omega
theorem int_dg {c : Nat} (h : c < 1000) : gInt [.str (dg c)] = .ok (.int (c : Int)) := by
  have e : intText? (mk (dg c)) = some (c : Int) := by
    rw [← mk_dg h]
    exact TL.int_num (by rw [numL_dg h]; have := dg_len c; omega)
  have hl := dg_len c
  show (match intText? (mk (dg c)) with | some n => if (dg c).length ≤ 640 then R.ok (D.int n) else R.stuck | none => R.stuck) = _
  rw [e]
  exact if_pos (by omega)
/-- a part of such a number's figures is such a number's -/
theorem dg_take {c k : Nat} (h : c < 1000) (h' : 1 ≤ c) (hk : 1 ≤ k) (hk' : k ≤ (dg c).length) : ∃ c', 1 ≤ c' ∧ c' < 1000 ∧ (dg c).take k = dg c' := by
  unfold dg at hk' ⊢
  by_cases q : c < 10
  · rw [if_pos q] at hk' ⊢
    refine ⟨c, h', h, ?_⟩
    rw [if_pos q, List.take_of_length_le (by simp; omega)]
  · rw [if_neg q] at hk' ⊢
    by_cases q2 : c < 100
    · rw [if_pos q2] at hk' ⊢
      have hk' : k ≤ 2 := hk'
      rcases (by omega : k = 1 ∨ k = 2) with e | e <;> subst e
      · refine ⟨c / 10, by omega, by omega, ?_⟩
        rw [if_pos (by omega)]; rfl
      · refine ⟨c, h', h, ?_⟩
        rw [if_neg q, if_pos q2]; rfl
    · rw [if_neg q2] at hk' ⊢
      have hk' : k ≤ 3 := hk'
      rcases (by omega : k = 1 ∨ k = 2 ∨ k = 3) with e | e | e <;> subst e
      · refine ⟨c / 100, by omega, by omega, ?_⟩
        rw [if_pos (by omega)]; rfl
      · refine ⟨c / 10, by omega, by omega, ?_⟩
        rw [if_neg (by omega), if_pos (by omega), Nat.div_div_eq_div_mul]; rfl
      · refine ⟨c, h', h, ?_⟩
        rw [if_neg q, if_neg q2]; rfl
/-- figures, not too many, the first not 0 -/
theorem dg_of {ds : List Nat} (h : ∀ d ∈ ds, 48 ≤ d ∧ d ≤ 57) (h0 : ds ≠ []) (h3 : ds.length ≤ 3) (hh : ds.getD 0 0 ≠ 48) : ∃ c, 1 ≤ c ∧ c < 1000 ∧ ds = dg c := by
  match ds, h, h0, h3, hh with
  | [a], h, _, _, hh =>
    have := h a (by simp)
    have hh : a ≠ 48 := hh
    refine ⟨a - 48, by omega, by omega, ?_⟩
    unfold dg
    rw [if_pos (by omega), show 48 + (a - 48) = a by omega]
  | [a, b], h, _, _, hh =>
    have := h a (by simp)
    have := h b (by simp)
    have hh : a ≠ 48 := hh
    refine ⟨(a - 48) * 10 + (b - 48), by omega, by omega, ?_⟩
    unfold dg
    rw [if_neg (by omega), if_pos (by omega), show 48 + ((a - 48) * 10 + (b - 48)) / 10 = a by omega, show 48 + ((a - 48) * 10 + (b - 48)) % 10 = b by omega]
  | [a, b, c], h, _, _, hh =>
    have := h a (by simp)
    have := h b (by simp)
    have := h c (by simp)
    have hh : a ≠ 48 := hh
    refine ⟨(a - 48) * 100 + (b - 48) * 10 + (c - 48), by omega, by omega, ?_⟩
    unfold dg
    rw [if_neg (by omega), if_neg (by omega), show 48 + ((a - 48) * 100 + (b - 48) * 10 + (c - 48)) / 100 = a by omega, show 48 + ((a - 48) * 100 + (b - 48) * 10 + (c - 48)) / 10 % 10 = b by omega, show 48 + ((a - 48) * 100 + (b - 48) * 10 + (c - 48)) % 10 = c by omega]
  | _ :: _ :: _ :: _ :: _, _, _, h3, _ => simp at h3
/-! ### a text among texts -/
theorem isIn_lstS (v : List Nat) : ∀ ss : List (List Nat), D.isIn (.str v) (.lst (ss.map D.str)) = .ok (decide (v ∈ ss)) := fun ss => by
  have h1 : (ss.map D.str).all D.flat = true := by
    rw [List.all_eq_true]
    intro d hd
    obtain ⟨x, _, rfl⟩ := List.mem_map.mp hd
    rfl
  show (if ((D.str v).flat && (ss.map D.str).all D.flat) = true then R.ok ((ss.map D.str).any fun y => D.eqv y (.str v)) else .stuck) = _
  rw [if_pos (by rw [h1]; rfl)]
  congr 1
  rw [Bool.eq_iff_iff, List.any_eq_true, decide_eq_true_iff]
  constructor
  · rintro ⟨d, hd, e⟩
    obtain ⟨x, hx, rfl⟩ := List.mem_map.mp hd
    have : x = v := of_decide_eq_true e
    rw [← this]; exact hx
  · intro h
    exact ⟨_, List.mem_map_of_mem h, decide_eq_true rfl⟩
theorem in_lstS (v : List Nat) (ss : List (List Nat)) : D.in_ (.str v) (.lst (ss.map D.str)) = .ok (.bl (decide (v ∈ ss))) := by
  unfold D.in_; rw [isIn_lstS]; rfl
theorem notIn_lstS (v : List Nat) (ss : List (List Nat)) : D.notIn (.str v) (.lst (ss.map D.str)) = .ok (.bl (!decide (v ∈ ss))) := by
  unfold D.notIn; rw [isIn_lstS]; rfl
/-- statements, one behind the other -/
theorem mSeq_assoc (a b c : Env → SO) : mSeq (mSeq a b) c = mSeq a (mSeq b c) := by
  funext Γ
  show (SO.bind (SO.bind (a Γ) b) c) = SO.bind (a Γ) (mSeq b c)
  cases a Γ <;> rfl
theorem range_by3 (i j : Int) (h : -1000000000 ≤ i) (h1 : i ≤ 1000000000) (h2 : -1000000000 ≤ j) (h3 : j ≤ 1000000000) : gRange3X [.int i, .int j, .int 3] = .ok (rngL i 3 (if i < j then ((j - i - 1) / 3 + 1).toNat else 0)) := by
  have e : Builtin.Range.rangeSize i j 3 = if i < j then (j - i - 1) / 3 + 1 else 0 := by unfold Builtin.Range.rangeSize; simp
  have s : Builtin.Range.small i j 3 = true := by
    unfold Builtin.Range.small
    rw [e]
    simp only [Builtin.Range.rangeFitsLong, Bool.and_eq_true, Bool.or_eq_true, decide_eq_true_eq, beq_iff_eq, show ((3 : Int) > 0) from by decide, if_true]
    split <;> omega
  have n : 0 ≤ Builtin.Range.rangeSize i j 3 := by rw [e]; split <;> omega
  show (if (3 : Int) ≠ 0 ∧ (3 : Int).natAbs < 1073741824 ∧ Builtin.Range.small i j 3 = true ∧ 0 ≤ Builtin.Range.rangeSize i j 3 then R.ok (rngL i 3 (Builtin.Range.rangeSize i j 3).toNat) else .stuck) = _
  rw [if_pos ⟨by decide, by decide, s, n⟩, e]
  split <;> rfl
end FL

set_option Elab.async false
set_option linter.all false
set_option maxRecDepth 100000
namespace FL
open PySem PySem.Spec PyProof.Rows L2
set_option autoImplicit false
/-! ### instances: made without __init__ -/
structure Mk0 (K : PySem.W.Frag) (C : Addr) : Prop where
  makes : PySem.W.makesIn K C = true
  init : PySem.W.findIn K (.ref C) "__init__" = some (some (.builtin "object.__init__"))
  kp : PySem.W.keepIn K (.ref C) = true
theorem run_make0 {X : Cx} {C : Addr} {pins : List (Addr × Obj)} {σ : St} {H : Hp} {s : Shared} {Q : VK} (M : Mk0 X.K C) (I : Inv X pins σ H s)
    (h : ∀ x dx, H x = none → H dx = none → dx ≠ x → Q (.ref x) (upd (upd H dx (.own x)) x (.ins C dx []))) :
    wpAny (model X.prog X.w) X.A (call (.ref C) []) (EP X pins σ Q) X.xe s := by
  have hq := h (s.heap.objs.size + 1) s.heap.objs.size (I.hok.fresh (Nat.le_succ _)) (I.hok.fresh (Nat.le_refl _)) (Nat.ne_of_lt (Nat.lt_succ_self _))
  have I2 := Inv.made (C := C) I
  have Y := PySem.W.makes_of (M := model X.prog X.w) I.kIn M.makes
  refine wpAny_call (make_map0 I.kIn M.makes M.init (fun self => PySem.W.Looks.of_pure (PySem.W.oi_bind self)) ?_)
  obtain ⟨hh, g, d, t, os⟩ := s
  have e1 : ((hh.push PySem.W.emptyDict).push (PySem.W.instObj C hh.objs.size)).get? (hh.objs.size + 1) = some (PySem.W.instObj C hh.objs.size) := by
    have := Heap.get?_push_size (hh.push PySem.W.emptyDict) (o := PySem.W.instObj C hh.objs.size) rfl
    rwa [Heap.size_push] at this
  have t1 : PySem.W.Looks (model X.prog X.w) ((hh.push PySem.W.emptyDict).push (PySem.W.instObj C hh.objs.size)) (typeOf (.ref (hh.objs.size + 1))) (.ref C) := (PySem.W.Looks.ld e1).andThen .now
  have t2 : PySem.W.Looks (model X.prog X.w) ((hh.push PySem.W.emptyDict).push (PySem.W.instObj C hh.objs.size)) (isInstance (.ref (hh.objs.size + 1)) (.type "object")) true := t1.andThen (Y.top.keeps fun b o e => Heap.get?_push_of_some _ (Heap.get?_push_of_some _ e))
  refine codeAny_call_builtin PySem.W.oi_plain PySem.W.entry_oi (@PySem.W.check_slot (model X.prog X.w) _ _ _ "object.__init__" "object" "__init__" (.ref (hh.objs.size + 1)) [] [] _ PySem.W.oi_kind PySem.W.oi_split t2 (PySem.W.oi_args (.ref (hh.objs.size + 1))) ?_)
  rw [PySem.W.oi_run]
  exact wpAny_pure (And.intro rfl ⟨V.ref (hh.objs.size + 1), _, I2, rfl, hq⟩)
/-! ### .. and as data -/
section
variable {X : Cx} {C : Cg} {x : Str} {p pos : Pos} {e : Expr} {te : TE} {me : Env → R D}
def tNew0 (Ca : Addr) : TE := fun σ H Q => ∀ a dx, H a = none → H dx = none → dx ≠ a → Q (.ref a) (upd (upd H dx (.own a)) a (.ins Ca dx []))
def mNew0 (x : Str) : Env → R D := fun _ => .ok (.obj x [])
theorem Ext.obj {F H : Hp} {a dx : Addr} {o o' : HO} (s : Same F H) (na : H a = none) (nd : H dx = none) (ne : dx ≠ a) : Ext F H (upd F a o) (upd (upd H dx o') a o) :=
  (Ext.raw s nd).trans (Ext.new (s.trans (same_upd nd)) (by rw [upd_ne (Ne.symm ne)]; exact na))
theorem fe_new0 (hK : X.K = C.K) (hmg : X.mg = C.mg) (M : Mk0 X.K (He.ga X.K x)) (hg : Gl X x) (hm : X.mg x = some (.ref (He.ga X.K x))) (hdb : (x == ("__debug__" : Str)) = false := by decide) :
    FE X C (.Call (.Name x p) [] [] pos) (tNew0 (He.ga X.K x)) (mNew0 x) := by
  refine ⟨⟨fun pins s σ H Q I h => ?_⟩, fun Γ σ F H Q en q a dx na nd ne => ?_⟩
  · refine wpAny_Call_Name_kw (ld_glob I hg hm ?_ hdb)
    exact PySem.W.callWith_K0 I.kIn M.kp (run_make0 M I h)
  · have q' : Post C (WE C.W σ) F H (.ok (.obj x [])) (kV C Q) := q
    exact q' _ _ (Ext.obj en.sub na nd ne) _ (Rep.obj (ns := []) (xs := []) (ds := []) (by rw [← hmg]; exact hm) upd_same .nil rfl)
/-! one field, by __init__ -/
def spI1 (K : PySem.W.Frag) (Ca : Addr) (f : Str) : Sp := fun vs H Q E => ∃ a dx v, vs = [.ref a, v] ∧ H a = some (.ins Ca dx []) ∧ Q .non (upd H a (.ins Ca dx [(f, v)]))
structure Mk1 (P : Program) (w : World) (K : PySem.W.Frag) (mg : Str → Option Value) (base : Heap) (x f : Str) : Prop where
  ex : ∃ fI fd y0 y1, mg x = some (.ref (He.ga K x)) ∧ Mk K (He.ga K x) fI ∧ Binds K fd [y0, y1] [] ∧ FnOk P w K mg base (L2N.CX P w) 1 fI fd [y0, y1] (spI1 K (He.ga K x) f)
theorem takesNo {X : Cx} : L2N.Takes X (fun _ _ _ _ => False) := fun u s' ⟨a, B, sI, pins, σ, H, cls, d, e, I, nb, up, sky, na, os, ag, w⟩ => w.elim
theorem passF {X : Cx} : Passes (L2N.CX X.prog X.w) X (fun _ _ _ => False) := fun pins σ H s e s' I h => L2N.passAt takesNo σ pins H s e s' I h
def mNew1 (x f : Str) (me : Env → R D) : Env → R D := fun Γ => do let d ← me Γ; .ok (.obj x [(f, d)])
theorem fe_new1 {f : Str} {k : Nat} (hK : X.K = C.K) (hmg : X.mg = C.mg) (M : Mk1 X.prog X.w X.K X.mg X.base x f) (hr : Room (k + 2) X.A) (hg : Gl X x) (he : FE X C e te me) (hdb : (x == ("__debug__" : Str)) = false := by decide)
    (hst : starEach [e] X.env = (false, eval e X.env) :: starEach [] X.env := by rfl) (hpl : (backTo pos (starEach [] X.env)).any (·.1) = false := by rfl) :
    FE X C (.Call (.Name x p) [e] [] pos) (tMake (He.ga X.K x) (spI1 X.K (He.ga X.K x) f) [] (fun _ _ _ => False) (tCons te tNil)) (mNew1 x f me) := by
  obtain ⟨fI, fd, y0, y1, h1, h2, h3, h4⟩ := M.ex
  refine ⟨pe_make h2 h4 (hr.mono (by omega)) hg h1 h3 .nil passF (pa_cons he.pe pa_nil hst) hdb hst hpl, fun Γ σ F H Q en q => ?_⟩
  have q' : Post C (WE C.W σ) F H (me Γ >>= fun d => R.ok (D.obj x [(f, d)])) (kV C Q) := q
  show tCons te tNil σ H _
  refine he.rd Γ σ F H _ en (Post.bind q' fun d F1 H1 x1 q1 v rv => ?_)
  intro a dx na nd ne
  refine ⟨a, dx, v, rfl, upd_same, rfl, ?_⟩
  have e1 : upd (upd (upd H1 dx (.own a)) a (.ins (He.ga X.K x) dx [])) a (.ins (He.ga X.K x) dx [(f, v)]) = upd (upd H1 dx (.own a)) a (.ins (He.ga X.K x) dx [(f, v)]) := by
    funext b
    by_cases hb : b = a
    · subst hb; rw [upd_same, upd_same]
    · rw [upd_ne hb, upd_ne hb, upd_ne hb]
  rw [e1]
  have nF : F1 a = none := x1.sub.free na
  refine q1 _ _ (Ext.obj x1.sub na nd ne) _ (Rep.obj (ns := [f]) (xs := [v]) (ds := [d]) (by rw [← hmg]; exact h1) upd_same (.cons (rv.mono (same_upd nF)) .nil) rfl)
end
theorem fn_init1 {P : Program} {w : World} {K : PySem.W.Frag} {mg : Str → Option Value} {base : Heap} {nm qual y0 y1 f : Str} {params : Arguments} {scope : Scope} {kws : List (Str × V)} {fI Ca : Addr} {fd : FuncData} {p1 p2 p3 p4 : Pos}
    (F : FunD K nm qual params [.Assign [.Attribute (.Name y0 p1) f p2] (.Name y1 p3) p4] scope [] kws fI fd) (S : FnScope [y0, y1] [y0, y1] scope) (c : Cls K Ca) (n : NoAttr K Ca f)
    (h0 : ∀ (X : Cx), X.N = [y0, y1] → X.env.scope = scope → PE X (.Name y0 p1) (tVar 0)) (h1 : ∀ (X : Cx), X.N = [y0, y1] → X.env.scope = scope → PE X (.Name y1 p3) (tVar 1))
    (hs : ∀ env : PySem.Env, swapsWith (.Name y1 p3) (some (.Attribute (.Name y0 p1) f p2)) p4.line env = pure false) : FnOk P w K mg base (L2N.CX P w) 1 fI fd [y0, y1] (spI1 K Ca f) := by
  refine F.ok S (fun vs H Q E ⟨_, _, _, e, _⟩ => by rw [e]; rfl) (fun cdv A outer s H vs Q E hr hsp => ?_)
  obtain ⟨a, dx, v, rfl, g1, g2⟩ := hsp
  refine ⟨_, pss_one (ps_fld (h0 _ rfl rfl) (h1 _ rfl rfl) (hs _)), ?_⟩
  exact ⟨v, rfl, .ref a, rfl, a, Ca, dx, [], rfl, g1, c, n, by decide, g2⟩
/-! ### fields -/
def fldR (L : List Str) (f : Str) : D → R D
  | .obj n fs => if L.contains n = true then (match fs.lookup f with
      | some d => .ok d
      | none => .stuck) else .stuck
  | _ => .stuck
def mFld (L : List Str) (f : Str) (mo : Env → R D) : Env → R D := fun Γ => do let o ← mo Γ; fldR L f o
theorem Reps.lookup {K : PySem.W.Frag} {mg : Str → Option Value} {F : Hp} {f : Str} {d : D} : ∀ {ns : List Str} {ds : List D} {xs : List V}, Reps K mg F ds xs → ns.length = ds.length → (ns.zip ds).lookup f = some d → ∃ v, (ns.zip xs).lookup f = some v ∧ Rep K mg F d v
  | [], _, _, _, _, h => by cases h
  | n :: ns, _, _, .cons (d := d0) (v := v0) r rs, hl, h => by
    have hl' : ns.length = _ := Nat.succ.inj hl
    by_cases e : f == n
    · have h' : (match f == n with | true => some d0 | false => (ns.zip _).lookup f) = some d := h
      rw [e] at h'
      cases h'
      refine ⟨v0, ?_, r⟩
      show (match f == n with | true => some v0 | false => _) = _
      rw [e]
    · have e' : (f == n) = false := by simpa using e
      have h' : (match f == n with | true => some d0 | false => (ns.zip _).lookup f) = some d := h
      rw [e'] at h'
      obtain ⟨v, h1, h2⟩ := Reps.lookup rs hl' h'
      refine ⟨v, ?_, h2⟩
      show (match f == n with | true => some v0 | false => _) = _
      rw [e']
      exact h1
theorem lookup_none {α : Type} {m : Str} : ∀ {ns : List Str} {xs : List α}, (ns.all fun n => decide (n ≠ m)) = true → (ns.zip xs).lookup m = none
  | [], _, _ => rfl
  | n :: ns, [], _ => rfl
  | n :: ns, x :: xs, h => by
    have h' := Bool.and_eq_true_iff.mp (show (decide (n ≠ m) && ns.all fun n => decide (n ≠ m)) = true from h)
    have e : (m == n) = false := beq_eq_false_iff_ne.mpr fun z => of_decide_eq_true h'.1 z.symm
    show (match m == n with | true => some x | false => (ns.zip xs).lookup m) = none
    rw [e]
    exact lookup_none h'.2
theorem zip_fst {α : Type} : ∀ {ns : List Str} {xs : List α}, ns.length = xs.length → (ns.zip xs).map Prod.fst = ns
  | [], _, _ => rfl
  | n :: ns, [], h => by cases h
  | n :: ns, x :: xs, h => by
    show n :: (ns.zip xs).map Prod.fst = _
    rw [zip_fst (Nat.succ.inj h)]
section
variable {X : Cx} {C : Cg} {o : Expr} {f : Str} {pos : Pos} {te : TE} {mo : Env → R D}
theorem fe_fld {L : List Str} (hK : X.K = C.K) (hmg : X.mg = C.mg) (ho : FE X C o te mo) (hL : ∀ n ∈ L, X.mg n = some (.ref (He.ga X.K n)) ∧ Cls X.K (He.ga X.K n) ∧ NoAttr X.K (He.ga X.K n) f) (hb : attributeBase o f X.env (eval o X.env) = eval o X.env := by rfl) :
    FE X C (.Attribute o f pos) (tFld X.K te f) (mFld L f mo) := by
  refine ⟨pe_fld ho.pe hb, fun Γ σ F H Q en q => ?_⟩
  have q' : Post C (WE C.W σ) F H (mo Γ >>= fun o => fldR L f o) (kV C Q) := q
  refine ho.rd Γ σ F H _ en (Post.bind q' fun d F1 H1 x1 q1 v rv => ?_)
  unfold fldR at q1
  split at q1
  · rename_i n fs
    split at q1
    · rename_i hn
      have hn' : n ∈ L := List.contains_iff_mem.mp hn
      split at q1
      · rename_i dd hd
        cases rv with
        | obj hC h r l =>
          obtain ⟨g1, g2, g3⟩ := hL n hn'
          rw [hmg] at g1
          have e : _ = _ := Option.some.inj (hC.symm.trans g1)
          injection e with e
          subst e
          obtain ⟨w, h1, h2⟩ := Reps.lookup r l hd
          exact ⟨_, _, _, _, w, rfl, x1.sub _ _ h, g2, g3, h1, q1 _ _ (Ext.refl x1.sub) _ h2⟩
      · exact q1.elim
    · exact q1.elim
  · exact q1.elim
end
/-! ### methods, told by the instance's class -/
structure MB (P : Program) (w : World) (K : PySem.W.Frag) (mg : Str → Option Value) (base : Heap) (n m : Str) (k np : Nat) (sp : Sp) : Prop where
  ex : ∃ f fd ps, mg n = some (.ref (He.ga K n)) ∧ Cls K (He.ga K n) ∧ Meth K (He.ga K n) m f ∧ Binds K fd ps [] ∧ FnOk P w K mg base (L2N.CX P w) k f fd ps sp
theorem MB.mono {P : Program} {w : World} {K : PySem.W.Frag} {mg : Str → Option Value} {base : Heap} {n m : Str} {j k np : Nat} {sp : Sp} (B : MB P w K mg base n m j np sp) (h : j ≤ k) : MB P w K mg base n m k np sp := by
  obtain ⟨f, fd, ps, h1, h2, h3, h4, h5⟩ := B.ex
  exact ⟨f, fd, ps, h1, h2, h3, h4, h5.mono h⟩
abbrev Dsp : Type := List (Str × (List D → R D))
def dspR (m : Str) (T : Dsp) : D → R (List D → R D)
  | .obj n fs => if (fs.all fun p => decide (p.1 ≠ m)) = true then (match T.lookup n with
      | some g => .ok g
      | none => .stuck) else .stuck
  | _ => .stuck
def mDsp (m : Str) (T : Dsp) (mo : Env → R D) (ma : Env → R (List D)) : Env → R D := fun Γ => do let o ← mo Γ; let g ← dspR m T o; let ds ← ma Γ; g (o :: ds)
def tDsp (P : Program) (w : World) (K : PySem.W.Frag) (mg : Str → Option Value) (base : Heap) (W : WX) (m : Str) (k np : Nat) (T : Dsp) (to : TE) (t : TA) : TE := fun σ H Q => to σ H fun x H1 => ∃ n g a dx fs f fd ps, (n, g) ∈ T ∧ x = .ref a ∧ H1 a = some (.ins (He.ga K n) dx fs) ∧ fs.lookup m = none ∧
  Cls K (He.ga K n) ∧ Meth K (He.ga K n) m f ∧ Binds K fd ps [] ∧ FnOk P w K mg base (L2N.CX P w) k f fd ps (spV K mg np g) ∧ t σ H1 fun vs H2 => spV K mg np g (x :: vs) H2 Q (WE W σ)
theorem lookup_memT {T : Dsp} {n : Str} {g : List D → R D} : T.lookup n = some g → (n, g) ∈ T := by
  induction T with
  | nil => intro h; cases h
  | cons p r ih =>
    obtain ⟨m, c⟩ := p
    intro h
    by_cases e : n == m
    · have e' := eq_of_beq e
      subst e'
      rw [List.lookup_cons, e] at h
      cases h
      exact List.mem_cons_self ..
    · have e' : (n == m) = false := by simpa using e
      rw [List.lookup_cons, e'] at h
      exact List.mem_cons_of_mem _ (ih h)
section
variable {X : Cx} {C : Cg} {o e : Expr} {es : List Expr} {m : Str} {k n : Nat} {apos pos : Pos} {to : TE} {t : TA} {mo : Env → R D} {ma : Env → R (List D)} {T : Dsp}
theorem fe_dsp {pl : Sem Bool} (hT : ∀ p ∈ T, MB X.prog X.w X.K X.mg X.base p.1 m k n (spV X.K X.mg n p.2)) (hK : X.K = C.K) (hmg : X.mg = C.mg) (hr : Room k X.A) (tk : L2N.Takes X C.W) (ho : FE X C o to mo) (ha : FA X C (e :: es) t ma) (hn : (e :: es).length + 1 = n) (hl : ∀ Γ ds, ma Γ = .ok ds → ds.length = (e :: es).length)
    (hst : starEach (e :: es) X.env = (false, eval e X.env) :: starEach es X.env := by rfl) (hpl : (backTo pos (starEach es X.env)).any (·.1) = false := by rfl)
    (ht : eval (.Call (.Attribute o m apos) (e :: es) [] pos) X.env = (do
      let ov ← eval o X.env
      standAt apos.atName
      let (f, first) ← holding [ov] (getMethod ov m pl)
      callWith pos f first (backTo pos (starEach (e :: es) X.env)) (backToKw pos (keywordEach [] X.env))) := by rfl) :
    FE X C (.Call (.Attribute o m apos) (e :: es) [] pos) (tDsp X.prog X.w X.K X.mg X.base C.W m k n T to t) (mDsp m T mo ma) := by
  refine ⟨⟨fun pins s σ H Q I h => ?_⟩, fun Γ σ F H Q en q => ?_⟩
  · refine PySem.W.methodCall_KW (pl := pl) (thn (ho.pe.run pins s σ H _ I h) fun u s1 ⟨x, H1, I1, rx, nm, g, a, dx, fs, f, fd, ps, _, ex, ea, l, c, hm, hb, F, q⟩ => ?_) ht
    subst ex
    obtain rfl : u = Value.ref a := rx
    refine getmeth_ok I1 ea c hm l ?_
    refine PySem.W.callWith_K (first := [.ref a]) (h₀ := X.base) I.ok.mod.kin hm.kp (thn (ha.pa.run pos pins s1 σ H1 _ I1 q) fun us s2 ⟨vs, H2, I2, r, q2⟩ => ⟨I2.kIn, ?_⟩) hst hpl
    exact run_fnSD (us := .ref a :: us) (vs := .ref a :: vs) F hr hb .nil (L2N.passAt tk σ) I2 (.cons rfl r) (by rw [List.append_nil]; exact q2)
  · have q' : Post C (WE C.W σ) F H (mo Γ >>= fun o => dspR m T o >>= fun g => ma Γ >>= fun ds => g (o :: ds)) (kV C Q) := q
    refine ho.rd Γ σ F H _ en (Post.bind q' fun d F1 H1 x1 q1 v rv => ?_)
    have hl' := hl Γ
    have hrd := ha.rd Γ σ F1 H1
    cases hd : dspR m T d with
    | stuck => rw [hd] at q1; exact q1.elim
    | exc n' d' =>
      exfalso
      unfold dspR at hd
      split at hd
      · split at hd
        · split at hd <;> cases hd
        · cases hd
      · cases hd
    | ok g =>
      rw [hd] at q1
      have q2 : Post C (WE C.W σ) F1 H1 (ma Γ >>= fun ds => g (d :: ds)) (kV C Q) := q1
      unfold dspR at hd
      split at hd
      · rename_i nm fs
        split at hd
        · rename_i hfs
          split at hd
          · rename_i g' hg
            cases hd
            have hmem := lookup_memT hg
            obtain ⟨f, fd, ps, g1, g2, g3, g4, g5⟩ := (hT _ hmem).ex
            cases rv with
            | obj hC h r l =>
              rename_i pp Cc dx ns xs ds0
              rw [hmg] at g1
              have e : _ = _ := Option.some.inj (hC.symm.trans g1)
              injection e with e
              subst e
              refine ⟨_, g, _, dx, _, f, fd, ps, hmem, rfl, x1.sub _ _ h, ?_, g2, g3, g4, g5, ?_⟩
              · refine lookup_none ?_
                have e9 : (ns.zip ds0).all (fun p => decide (p.1 ≠ m)) = ((ns.zip ds0).map Prod.fst).all fun n => decide (n ≠ m) := by rw [List.all_map]; rfl
                rw [e9, zip_fst l] at hfs
                exact hfs
              · refine hrd _ (en.step x1) ?_
                revert q2 hl'
                cases ma Γ with
                | ok ds =>
                  intro hl' q2
                  refine fun F2 H2 x2 vs rs => ?_
                  have rv2 : Rep C.K C.mg F2 (.obj nm (ns.zip ds0)) (.ref pp) := Rep.mono x2.sF (.obj hC h r l)
                  have r2 : Reps C.K C.mg F2 (.obj nm (ns.zip ds0) :: ds) (.ref pp :: vs) := .cons rv2 rs
                  refine ⟨by rw [r2.length, List.length_cons, hl' ds rfl]; exact hn, F2, _, x2.sub, by rw [hK, hmg]; exact r2, ?_⟩
                  have q3 : Post C (WE C.W σ) F1 H1 (g (.obj nm (ns.zip ds0) :: ds)) (kV C Q) := q2
                  have p2 := Post.step q3 x2
                  exact post_cg hK hmg (p2.imp fun d F3 H3 _ q v r => q v (by rw [← hK, ← hmg]; exact r))
                | exc n' d' => exact fun _ q2 => q2
                | stuck => exact fun _ q2 => q2.elim
          · cases hd
        · cases hd
      · cases hd
end
/-! ### by the text -/
section
variable {fa : List He.Fa} {fn : List He.DefD} {fx : List FaX} {K : PySem.W.Frag} {mg : Str → Option Value} {P : Program} {w : World} {base : Heap}
theorem TxX.mk0 (T : TxX fa fn fx K mg) (i : Nat) {x : Str} (h : fx[i]? = some (.mk0 x)) : Mk0 K (He.ga K x) := by
  obtain ⟨c1, c⟩ := ba' (T.at i h)
  obtain ⟨c2, c3⟩ := ba' c
  exact ⟨c1, He.eqO_ok c2, c3⟩
theorem TxX.cls (T : TxX fa fn fx K mg) (i : Nat) {x : Str} (h : fa[i]? = some (.cls x)) : Cls K (He.ga K x) := He.cls_ok (T.t.says.fact i h)
theorem TxX.noat (T : TxX fa fn fx K mg) (i : Nat) {x f : Str} (h : fa[i]? = some (.noat x f)) : NoAttr K (He.ga K x) f := He.noat_ok (T.t.says.fact i h)
theorem TxX.meth (T : TxX fa fn fx K mg) (i : Nat) {x m : Str} (h : fa[i]? = some (.meth x m)) : Meth K (He.ga K x) m (He.ma K (He.ga K x) m) := He.meth_ok (T.t.says.fact i h)
/-- a method of the text, by its body's plain function -/
theorem TxX.mbV (T : TxX fa fn fx K mg) (i jx jc jm : Nat) {d : He.DefD} {x m : Str} {N ps : List Str} {k : Nat} {b : Env → SO} (hd : fn[i]? = some d) (hx : fa[jx]? = some (.glo x)) (hc : fa[jc]? = some (.cls x)) (hm : fa[jm]? = some (.meth x m)) (ha : d.at_ = (x, some m)) (hdf : d.dfl = []) (S : FnScope N ps d.scope)
    (hb : ∀ (kV doc pm : Value) (an : Option Addr) (cdv ct : Value) (us : List Value), us.length = ps.length → bindArgs (PySem.W.fnOf d.name d.qual d.params d.body d.scope .none kV doc pm an cdv ct) ⟨us, []⟩ = pure (ps.zip us))
    (h : ∀ (f : Addr) (cdv : Value) (A : Around) (outer : List PySem.Env) (s : Shared) (H F0 : Hp) (E : XK), Room k (A.deeper (envOfC d.qual d.scope s.heap.objs.size f cdv)) → L2N.Takes (cxOf (L2N.CX P w) P w K mg base N d.qual d.scope f cdv A outer s H E) (cg0 K mg E F0 H).W →
      PassesOwn (model P w) (A.deeper (envOfC d.qual d.scope s.heap.objs.size f cdv)) (envOfC d.qual d.scope s.heap.objs.size f cdv) (cxOf (L2N.CX P w) P w K mg base N d.qual d.scope f cdv A outer s H E).xe →
      ∃ t, FB2 (cxOf (L2N.CX P w) P w K mg base N d.qual d.scope f cdv A outer s H E) (cg0 K mg E F0 H) d.body t b) : MB P w K mg base x m (k + 1) ps.length (spV K mg ps.length (mFn N.length b)) := by
  obtain ⟨fd, F⟩ := T.t.says.def_ i hd
  have e : He.fAd K d.at_ = He.ma K (He.ga K x) m := by rw [ha]; rfl
  rw [e] at F
  have e2 : d.dvs K = [] := by
    show d.dfl.map (He.Dv.v K) = []
    rw [hdf]; rfl
  rw [e2] at F
  refine ⟨_, fd, ps, T.glo jx hx, T.cls jc hc, T.meth jm hm, ?_, fn_val F S fun cdv A outer s H F0 E hr => h _ cdv A outer s H F0 E hr (L2N.takes_of rfl rfl rfl rfl) (passes_of rfl)⟩
  intro s us _ hl
  rw [List.append_nil] at hl ⊢
  exact F.bindsA hb s us hl
theorem TxX.mk1 (T : TxX fa fn fx K mg) (i jx jc jn jm : Nat) {d : He.DefD} {x f y0 y1 : Str} {p1 p2 p3 p4 : Pos} (hd : fn[i]? = some d) (hx : fa[jx]? = some (.glo x)) (hc : fa[jc]? = some (.cls x)) (hn : fa[jn]? = some (.noat x f)) (hm : fa[jm]? = some (.mkr x)) (ha : d.at_ = (x, some ("__init__" : Str))) (hdf : d.dfl = []) (S : FnScope [y0, y1] [y0, y1] d.scope)
    (hbd : d.body = [.Assign [.Attribute (.Name y0 p1) f p2] (.Name y1 p3) p4])
    (hb : ∀ (kV doc pm : Value) (an : Option Addr) (cdv ct : Value) (us : List Value), us.length = [y0, y1].length → bindArgs (PySem.W.fnOf d.name d.qual d.params d.body d.scope .none kV doc pm an cdv ct) ⟨us, []⟩ = pure ([y0, y1].zip us))
    (hv0 : Vis d.scope y0) (hv1 : Vis d.scope y1) (hs : ∀ env : PySem.Env, swapsWith (.Name y1 p3) (some (.Attribute (.Name y0 p1) f p2)) p4.line env = pure false)
    (q0 : (y0 == ("__debug__" : Str)) = false := by decide) (q1 : (y0 == ("__classdict__" : Str)) = false := by decide) (q2 : (y1 == ("__debug__" : Str)) = false := by decide) (q3 : (y1 == ("__classdict__" : Str)) = false := by decide) : Mk1 P w K mg base x f := by
  obtain ⟨fd, F⟩ := T.t.says.def_ i hd
  have e : He.fAd K d.at_ = He.ma K (He.ga K x) "__init__" := by rw [ha]; rfl
  rw [e] at F
  have e2 : d.dvs K = [] := by
    show d.dfl.map (He.Dv.v K) = []
    rw [hdf]; rfl
  rw [e2, hbd] at F
  refine ⟨_, fd, y0, y1, T.glo jx hx, He.mkr_ok (T.t.says.fact jm hm), ?_, fn_init1 F S (T.cls jc hc) (T.noat jn hn) (fun X hN hS => pv 0 (by rw [hN]; rfl) (by rw [hS]; exact hv0) q0 q1) (fun X hN hS => pv 1 (by rw [hN]; rfl) (by rw [hS]; exact hv1) q2 q3) hs⟩
  intro s us _ hl
  rw [List.append_nil] at hl ⊢
  exact F.bindsA (by rw [hbd] at hb; exact hb) s us hl
end
/-! ### {} -/
theorem fe_dnew {X : Cx} {C : Cg} {pos : Pos} : FE X C (.Dict [] [] pos) tDNewK (mC (.dct [])) :=
  ⟨pe_dnewK, fun Γ σ F H Q en q p na => by
    have q' : Post C (WE C.W σ) F H (.ok (.dct [])) (kV C Q) := q
    exact q' _ _ (Ext.new en.sub na) _ (Rep.dct (ks := []) (xs := []) (ds := []) upd_same .nil rfl .nil)⟩
end FL

set_option Elab.async false
set_option linter.all false
set_option maxRecDepth 100000
namespace FL
open PySem PySem.Spec PyProof.Rows L2
set_option autoImplicit false
/-! ### list(range(a, b, -1)) -/
def dnV (a b : Int) : List V := (List.range (a - b).toNat).map fun i => V.int (a + (i : Nat) * (-1))
theorem vals_dn {a b : Int} {acc : Array Value} (h : ItemsOf (fun i v => ∃ t, v = .int (a + i * (-1)) t) acc (a - b).toNat) : Vals (dnV a b) acc.toList := by
  have e : acc.toList.length = (a - b).toNat := by rw [Array.length_toList]; exact h.1
  unfold dnV
  rw [← e]
  refine vals_of_get acc.toList _ fun j u hj => ?_
  obtain ⟨t, rfl⟩ := h.2 j u (by rw [← hj, Array.getElem?_toList])
  exact ⟨t, rfl⟩
theorem reps_dn {K : PySem.W.Frag} {mg : Str → Option Value} {F : Hp} (a b : Int) : Reps K mg F (rngL a (-1) (a - b).toNat) (dnV a b) := by
  unfold rngL dnV
  generalize List.range (a - b).toNat = l
  induction l with
  | nil => exact .nil
  | cons n l ih => exact .cons (.int _) ih
def mLRg3 (m m' m2 : Env → R D) : Env → R (List D) := fun Γ => m Γ >>= fun x => m' Γ >>= fun y => m2 Γ >>= fun z => match x, y, z with
  | .int a, .int b, .int c => if 0 ≤ a ∧ a ≤ 16777215 ∧ -1 ≤ b ∧ b ≤ 16777216 ∧ c = -1 then .ok (rngL a (-1) (a - b).toNat) else .stuck
  | _, _, _ => .stuck
def tDn (ta tb tc : TE) : TE := fun σ H Q => ta σ H fun x H1 => tb σ H1 fun y H2 => tc σ H2 fun z H3 => ∃ a b, x = .int a ∧ y = .int b ∧ z = .int (-1) ∧ 0 ≤ a ∧ a ≤ 16777215 ∧ -1 ≤ b ∧ b ≤ 16777216 ∧ ∀ q, H3 q = none → Q (.ref q) (upd H3 q (.lst (dnV a b)))
section
variable {X : Cx} {C : Cg} {a b c : Expr} {ta tb tc : TE} {ma mb mc : Env → R D} {p p2 pos pos2 : Pos}
theorem prg_3 (hg : Gl X "range") (hm : X.mg "range" = none) (ha : PE X a ta) (hb : PE X b tb) (hcc : PE X c tc)
    (na : starEach [a, b, c] X.env = (false, eval a X.env) :: starEach [b, c] X.env := by rfl) (nb : starEach [b, c] X.env = (false, eval b X.env) :: starEach [c] X.env := by rfl) (nc : starEach [c] X.env = (false, eval c X.env) :: starEach [] X.env := by rfl)
    (hp : (backTo pos2 (starEach [b, c] X.env)).any (·.1) = false := by rfl) (pins : List (Addr × Obj)) (s : Shared) (σ : St) (H : Hp) {Q : VK} (I : Inv X pins σ H s) (h : tDn ta tb tc σ H Q) :
    wpAny (model X.prog X.w) X.A (eval (.Call (.Name "range" p2) [a, b, c] [] pos2) X.env) (fun v s' => ∃ r i j t u w H3, v = .ref r ∧ IsRange s'.heap r i j (-1) t u w ∧ Inv X pins σ H3 s' ∧ 0 ≤ i ∧ i ≤ 16777215 ∧ -1 ≤ j ∧ j ≤ 16777216 ∧ ∀ q, H3 q = none → Q (.ref q) (upd H3 q (.lst (dnV i j)))) X.xe s := by
  refine Call_ (ld_blt I hg hm boot_range (PyProof.Rows.callWith_type1 (args_cons (thn (ha.run pins s σ H _ I h) fun v s1 ⟨x, H1, I1, r1, q1⟩ => args_cons (thn (hb.run pins s1 σ H1 _ I1 q1) fun v2 s2 ⟨y, H2, I2, r2, q2⟩ => one_arg hcc I2 q2 (fun v3 s3 z H3 I3 r3 q3 => ?_) nc) nb) na) na hp))
  obtain ⟨i, j, rfl, rfl, rfl, b1, b2, b3, b4, q⟩ := q3
  obtain ⟨t1, rfl⟩ := r1
  obtain ⟨t2, rfl⟩ := r2
  obtain ⟨t3, rfl⟩ := r3
  exact call_range_3 (by decide) ⟨_, i, j, _, _, _, H3, rfl, IsRange.new _ _ _ _ _ _ _, I3.kept fun b u e => Heap.get?_push_of_some _ e, b1, b2, b3, b4, q⟩ (.inl (PyProof.noPylong_small (by decide)))
theorem fl_lrg3 (hc : X.calm = true) (hg : Gl X "list") (hm : X.mg "list" = none) (hg2 : Gl X "range") (hm2 : X.mg "range" = none) (ha : FE X C a ta ma) (hb : FE X C b tb mb) (hcc : FE X C c tc mc)
    (na : starEach [a, b, c] X.env = (false, eval a X.env) :: starEach [b, c] X.env := by rfl) (nb : starEach [b, c] X.env = (false, eval b X.env) :: starEach [c] X.env := by rfl) (nc : starEach [c] X.env = (false, eval c X.env) :: starEach [] X.env := by rfl)
    (hp : (backTo pos2 (starEach [b, c] X.env)).any (·.1) = false := by rfl) (hp2 : (backTo pos2 (starEach [c] X.env)).any (·.1) = false := by rfl)
    (na2 : starEach [.Call (.Name "range" p2) [a, b, c] [] pos2] X.env = (false, eval (.Call (.Name "range" p2) [a, b, c] [] pos2) X.env) :: starEach [] X.env := by rfl) :
    FL X C (.Call (.Name "list" p) [.Call (.Name "range" p2) [a, b, c] [] pos2] [] pos) (tDn ta tb tc) (mLRg3 ma mb mc) := by
  refine ⟨⟨fun pins s σ H Q I h => ?_⟩, fun Γ σ F H Q en q => ?_⟩
  · refine Call_ (ld_blt I hg hm boot_list (PyProof.Rows.callWith_type1 (args_cons (thn (prg_3 hg2 hm2 ha.pe hb.pe hcc.pe na nb nc hp pins s σ H I h) fun x s1 ⟨r, i, j, t, u, w, H3, ex, hr, I1, b1, b2, b3, b4, q⟩ => args_nil ?_) na2) na2))
    subst ex
    refine call_list_range (n := (i - j).toNat) (I1.ok.hd hc) hr (PySem.W.small_down (by omega) (by omega) (by omega) (by omega)) (PySem.W.rangeSize_downNat i j) (by omega) fun h' tk acc c' hk e' hi => ?_
    refine ⟨.ref s1.heap.objs.size, upd H3 s1.heap.objs.size (.lst (dnV i j)), I1.laid hk (Nat.le_refl _) (show ObjOk X.prog X.w _ _ _ (.lst (dnV i j)) from ⟨?_, acc.toList, c', vals_dn hi, ?_⟩), rfl, q _ (I1.hok.fresh (Nat.le_refl _))⟩
    · unfold dnV; rw [List.length_map, List.length_range, sizeLine_eq]; omega
    · rw [Array.toArray_toList]; exact e'
  · refine ha.rd Γ σ F H _ en (Post.bind q fun x F1 H1 x1 p1 v r => hb.rd Γ σ F1 H1 _ (en.step x1) (Post.bind p1 fun y F2 H2 x2 p2 v2 r2 => hcc.rd Γ σ F2 H2 _ ((en.step x1).step x2) (Post.bind p2 fun z F3 H3 x3 p3 v3 r3 => ?_)))
    cases r with
    | int n =>
      cases r2 with
      | int k =>
        cases r3 with
        | int l =>
          have p4 : Post C (WE C.W σ) F3 H3 (if 0 ≤ n ∧ n ≤ 16777215 ∧ -1 ≤ k ∧ k ≤ 16777216 ∧ l = -1 then .ok (rngL n (-1) (n - k).toNat) else .stuck) (kL C H Q) := p3
          split at p4
          · rename_i hh
            obtain ⟨h1, h2, h3, h4, rfl⟩ := hh
            exact ⟨n, k, rfl, rfl, rfl, h1, h2, h3, h4, fun z nz => p4 _ _ (Ext.raw x3.sub nz) z _ (((x1.sH.trans x2.sH).trans x3.sH).free nz) upd_same (sub_none x3.sub nz) (reps_dn _ _)⟩
          · exact p4.elim
        | _ => exact p3.elim
      | _ => exact p3.elim
    | _ => exact p3.elim
end
end FL

set_option Elab.async false
set_option linter.all false
set_option maxRecDepth 100000
set_option maxHeartbeats 2000000
/-! FL, part 23: loops turn by turn. -/
namespace FL
open PySem PySem.Spec PyProof.Rows L2
set_option autoImplicit false
/-- what a turn's end does -/
def nextK (s : SO) (k : Env → SO) : SO := match s with
  | .nx Γ => k Γ
  | .ct Γ => k Γ
  | .bk Γ => .nx Γ
  | s => s
section
variable {g : Env → D → Option Env} {body : Env → SO} {Γ : Env} {d : D} {ds : List D} {k : Env → SO}
theorem nextK_nx : nextK (.nx Γ) k = k Γ := rfl
theorem nextK_ct : nextK (.ct Γ) k = k Γ := rfl
theorem nextK_bk : nextK (.bk Γ) k = .nx Γ := rfl
theorem nextK_rt (d : D) : nextK (.rt d) k = .rt d := rfl
theorem nextK_rtL (d : List D) : nextK (.rtL d) k = .rtL d := rfl
theorem nextK_ex (n : Str) (d : Option D) : nextK (.ex Γ n d) k = .ex Γ n d := rfl
theorem nextK_ite {c : Prop} [Decidable c] (a b : SO) : nextK (if c then a else b) k = if c then nextK a k else nextK b k := by
  split <;> rfl
theorem forL_nil : forL g body [] Γ = .nx Γ := rfl
theorem forL_cons {Γ1 : Env} (h : g Γ d = some Γ1) : forL g body (d :: ds) Γ = nextK (body Γ1) (forL g body ds) := by
  unfold forL
  rw [h]
  show _ = nextK (body Γ1) _
  cases e : body Γ1 <;> (dsimp only; simp only [e]; rfl)
theorem forL_set (i : Nat) : forL (gSet i) body (d :: ds) Γ = nextK (body (Γ.set i (.val d))) (forL (gSet i) body ds) := forL_cons (gSet_ev d)
theorem rngL_nil (a c : Int) : rngL a c 0 = [] := rfl
theorem rngL_cons (a c : Int) (n : Nat) : rngL a c (n + 1) = .int a :: rngL (a + c) c n := by
  unfold rngL
  rw [List.range_succ_eq_map, List.map_cons, List.map_map]
  congr 1
  · congr 1; omega
  · apply List.map_congr_left
    intro i _
    show D.int (a + ((i + 1 : Nat) : Int) * c) = .int (a + c + (i : Int) * c)
    congr 1
    rw [Int.natCast_add, Int.add_mul]
    omega
/-- downwards -/
theorem rngL_down (n : Nat) : rngL (((n + 1 : Nat) : Int) - 1) (-1) (n + 1) = .int (n : Int) :: rngL ((n : Int) - 1) (-1) n := by
  rw [rngL_cons, show (((n + 1 : Nat) : Int) - 1) = (n : Int) by omega]
  rfl
/-- upwards -/
theorem rngL_up (k n : Nat) : rngL (k : Int) 1 (n + 1) = .int (k : Int) :: rngL ((k + 1 : Nat) : Int) 1 n := by
  rw [rngL_cons]
  rfl
/-- a turn of a while -/
theorem whileN_succ {c : Env → R Bool} (n : Nat) : whileN c body (n + 1) Γ = lift Γ (c Γ) fun b => if b = true then nextK (body Γ) (whileN c body n) else .nx Γ := by
  unfold whileN
  congr 1
end
theorem g_sindex_of {a b : List Nat} {k : Nat} (h : Txt.index0 (mk a) (mk b) = some k) : g_sindex a [.str b] = .ok (.int (k : Nat)) := by
  show (match Txt.index0 (mk a) (mk b) with | some k => R.ok (D.int (k : Nat)) | none => .stuck) = _
  rw [h]
end FL

set_option Elab.async false
set_option linter.all false
set_option maxRecDepth 100000
set_option maxHeartbeats 2000000
/-! FL, part 24: the first and the last place of a kind; find, rfind within bounds; methods told by the class, reckoned. -/
namespace FL
open PySem PySem.Spec PyProof.Rows L2
set_option autoImplicit false
/-- the first place from a on, of n, at which p holds -/
def fstN (p : Nat → Bool) : Nat → Nat → Option Nat
  | _, 0 => none
  | a, n + 1 => if p a = true then some a else fstN p (a + 1) n
/-- the last one -/
def lstN (p : Nat → Bool) (a : Nat) : Nat → Option Nat
  | 0 => none
  | n + 1 => if p (a + n) = true then some (a + n) else lstN p a n
theorem fstN_some {p : Nat → Bool} {k : Nat} : ∀ {a n : Nat}, a ≤ k → k < a + n → p k = true → (∀ v, a ≤ v → v < k → p v = false) → fstN p a n = some k
  | a, 0, h1, h2, _, _ => by omega
  | a, n + 1, h1, h2, h3, h4 => by
    unfold fstN
    by_cases q : a = k
    · subst q; rw [if_pos h3]
    · rw [h4 a (Nat.le_refl _) (by omega), if_neg Bool.false_ne_true]
      exact fstN_some (by omega) (by omega) h3 fun v g1 g2 => h4 v (by omega) g2
theorem fstN_none {p : Nat → Bool} : ∀ {a n : Nat}, (∀ v, a ≤ v → v < a + n → p v = false) → fstN p a n = none
  | a, 0, _ => rfl
  | a, n + 1, h => by
    unfold fstN
    rw [h a (Nat.le_refl _) (by omega), if_neg Bool.false_ne_true]
    exact fstN_none fun v g1 g2 => h v (by omega) (by omega)
theorem fstN_spec (p : Nat → Bool) : ∀ a n : Nat, (fstN p a n = none ∧ ∀ v, a ≤ v → v < a + n → p v = false) ∨ ∃ k, fstN p a n = some k ∧ a ≤ k ∧ k < a + n ∧ p k = true ∧ ∀ v, a ≤ v → v < k → p v = false
  | a, 0 => .inl ⟨rfl, fun v h1 h2 => by omega⟩
  | a, n + 1 => by
    unfold fstN
    by_cases q : p a = true
    · exact .inr ⟨a, by rw [if_pos q], Nat.le_refl _, by omega, q, fun v h1 h2 => by omega⟩
    · have q' : p a = false := by simpa using q
      rw [if_neg q]
      rcases fstN_spec p (a + 1) n with ⟨e, h⟩ | ⟨k, e, h1, h2, h3, h4⟩
      · refine .inl ⟨e, fun v g1 g2 => ?_⟩
        by_cases z : v = a
        · rw [z]; exact q'
        · exact h v (by omega) (by omega)
      · refine .inr ⟨k, e, by omega, by omega, h3, fun v g1 g2 => ?_⟩
        by_cases z : v = a
        · rw [z]; exact q'
        · exact h4 v (by omega) g2
theorem lstN_spec (p : Nat → Bool) (a : Nat) : ∀ n : Nat, (lstN p a n = none ∧ ∀ v, a ≤ v → v < a + n → p v = false) ∨ ∃ k, lstN p a n = some k ∧ a ≤ k ∧ k < a + n ∧ p k = true ∧ ∀ v, k < v → v < a + n → p v = false
  | 0 => .inl ⟨rfl, fun v h1 h2 => by omega⟩
  | n + 1 => by
    unfold lstN
    by_cases q : p (a + n) = true
    · exact .inr ⟨a + n, by rw [if_pos q], by omega, by omega, q, fun v h1 h2 => by omega⟩
    · have q' : p (a + n) = false := by simpa using q
      rw [if_neg q]
      rcases lstN_spec p a n with ⟨e, h⟩ | ⟨k, e, h1, h2, h3, h4⟩
      · refine .inl ⟨e, fun v g1 g2 => ?_⟩
        by_cases z : v = a + n
        · rw [z]; exact q'
        · exact h v (by omega) (by omega)
      · refine .inr ⟨k, e, by omega, by omega, h3, fun v g1 g2 => ?_⟩
        by_cases z : v = a + n
        · rw [z]; exact q'
        · exact h4 v g1 (by omega)
theorem lstN_some {p : Nat → Bool} {a n k : Nat} (h1 : a ≤ k) (h2 : k < a + n) (h3 : p k = true) (h4 : ∀ v, k < v → v < a + n → p v = false) : lstN p a n = some k := by
  rcases lstN_spec p a n with ⟨e, h⟩ | ⟨j, e, g1, g2, g3, g4⟩
  · rw [h k h1 h2] at h3; cases h3
  · rcases Nat.lt_trichotomy j k with z | z | z
    · rw [g4 k z h2] at h3; cases h3
    · rw [e, z]
    · rw [h4 j z g2] at g3; cases g3
theorem lstN_none {p : Nat → Bool} {a n : Nat} (h : ∀ v, a ≤ v → v < a + n → p v = false) : lstN p a n = none := by
  rcases lstN_spec p a n with ⟨e, _⟩ | ⟨j, e, g1, g2, g3, g4⟩
  · exact e
  · rw [h j g1 g2] at g3; cases g3
theorem fstN_congr {p q : Nat → Bool} : ∀ {a n : Nat}, (∀ v, a ≤ v → v < a + n → p v = q v) → fstN p a n = fstN q a n
  | a, 0, _ => rfl
  | a, n + 1, h => by
    unfold fstN
    rw [h a (Nat.le_refl _) (by omega), fstN_congr fun v g1 g2 => h v (by omega) (by omega)]
theorem lstN_congr {p q : Nat → Bool} {a : Nat} : ∀ {n : Nat}, (∀ v, a ≤ v → v < a + n → p v = q v) → lstN p a n = lstN q a n
  | 0, _ => rfl
  | n + 1, h => by
    unfold lstN
    rw [h (a + n) (by omega) (by omega), lstN_congr fun v g1 g2 => h v g1 (by omega)]
theorem fstN_lt {p : Nat → Bool} {a n k : Nat} (h : fstN p a n = some k) : a ≤ k ∧ k < a + n ∧ p k = true := by
  rcases fstN_spec p a n with ⟨e, _⟩ | ⟨j, e, g1, g2, g3, g4⟩
  · rw [e] at h; cases h
  · rw [e] at h; cases h; exact ⟨g1, g2, g3⟩
theorem lstN_lt {p : Nat → Bool} {a n k : Nat} (h : lstN p a n = some k) : a ≤ k ∧ k < a + n ∧ p k = true := by
  rcases lstN_spec p a n with ⟨e, _⟩ | ⟨j, e, g1, g2, g3, g4⟩
  · rw [e] at h; cases h
  · rw [e] at h; cases h; exact ⟨g1, g2, g3⟩
theorem fstN_eq {P Q : Nat → Bool} {a n b m : Nat} (h : ∀ v, (a ≤ v ∧ v < a + n ∧ P v = true) ↔ (b ≤ v ∧ v < b + m ∧ Q v = true)) : fstN P a n = fstN Q b m := by
  rcases fstN_spec Q b m with ⟨e, hn⟩ | ⟨k, e, h1, h2, h3, h4⟩
  · rw [e]
    refine fstN_none fun v g1 g2 => ?_
    cases z : P v with
    | false => rfl
    | true =>
      obtain ⟨w1, w2, w3⟩ := (h v).mp ⟨g1, g2, z⟩
      rw [hn v w1 w2] at w3; cases w3
  · rw [e]
    obtain ⟨w1, w2, w3⟩ := (h k).mpr ⟨h1, h2, h3⟩
    refine fstN_some w1 w2 w3 fun v g1 g2 => ?_
    cases z : P v with
    | false => rfl
    | true =>
      obtain ⟨y1, y2, y3⟩ := (h v).mp ⟨g1, by omega, z⟩
      rw [h4 v y1 g2] at y3; cases y3
theorem lstN_eq {P Q : Nat → Bool} {a n b m : Nat} (h : ∀ v, (a ≤ v ∧ v < a + n ∧ P v = true) ↔ (b ≤ v ∧ v < b + m ∧ Q v = true)) : lstN P a n = lstN Q b m := by
  rcases lstN_spec Q b m with ⟨e, hn⟩ | ⟨k, e, h1, h2, h3, h4⟩
  · rw [e]
    refine lstN_none fun v g1 g2 => ?_
    cases z : P v with
    | false => rfl
    | true =>
      obtain ⟨w1, w2, w3⟩ := (h v).mp ⟨g1, g2, z⟩
      rw [hn v w1 w2] at w3; cases w3
  · rw [e]
    obtain ⟨w1, w2, w3⟩ := (h k).mpr ⟨h1, h2, h3⟩
    refine lstN_some w1 w2 w3 fun v g1 g2 => ?_
    cases z : P v with
    | false => rfl
    | true =>
      obtain ⟨y1, y2, y3⟩ := (h v).mp ⟨by omega, g2, z⟩
      rw [h4 v g1 y2] at y3; cases y3
/-- the head and the end of a filtered list of neighbours -/
theorem head_filter (p : Nat → Bool) : ∀ a n : Nat, ((List.range' a n).filter p).head? = fstN p a n
  | a, 0 => rfl
  | a, n + 1 => by
    rw [List.range'_succ]
    unfold fstN
    by_cases q : p a = true
    · rw [List.filter_cons_of_pos q, if_pos q]; rfl
    · rw [List.filter_cons_of_neg q, if_neg q]; exact head_filter p (a + 1) n
theorem last_filter (p : Nat → Bool) (a : Nat) : ∀ n : Nat, ((List.range' a n).filter p).getLast? = lstN p a n
  | 0 => rfl
  | n + 1 => by
    rw [List.range'_1_concat, List.filter_append]
    unfold lstN
    by_cases q : p (a + n) = true
    · rw [if_pos q, List.filter_cons_of_pos q]; simp
    · rw [if_neg q, List.filter_cons_of_neg q, List.filter_nil, List.append_nil]; exact last_filter p a n
/-! ### one sign within bounds -/
theorem at_one (l : List Nat) (c hi i : Nat) (h : hi ≤ l.length) : StrLaws.At (mk l) ⟨#[c]⟩ hi i ↔ i < hi ∧ l.getD i 0 = c := by
  have s := StrLaws.subAt_one (mk l) c i
  rw [mk_list, mk_len] at s
  have e1 : (⟨#[c]⟩ : Str).length = 1 := rfl
  rw [e1] at s
  unfold StrLaws.At
  rw [e1]
  constructor
  · rintro ⟨h1, h2⟩
    have := s.mp ⟨by omega, h2⟩
    exact ⟨by omega, by rw [List.getD_eq_getElem?_getD, this]; rfl⟩
  · rintro ⟨h1, h2⟩
    have hi' : i < l.length := by omega
    have := s.mpr (by rw [List.getD_eq_getElem?_getD, List.getElem?_eq_getElem hi'] at h2; rw [List.getElem?_eq_getElem hi']; exact congrArg some h2)
    exact ⟨by omega, this.2⟩
theorem find4_sg (l : List Nat) (c i j : Nat) (hj : j ≤ l.length) : Txt.findIn (mk l) (mk [c]) (i : Int) (j : Int) = match fstN (fun v => decide (l.getD v 0 = c)) i (j - i) with
    | some k => (k : Int)
    | none => -1 := by
  have hf : PySem.fromIndex (mk l).length (i : Int) = i := by
    unfold PySem.fromIndex
    rw [if_neg (by omega)]
    omega
  have ht : toIndexW (mk l).length (j : Int) = j := by
    unfold toIndexW
    rw [if_neg (by omega), mk_len]
    omega
  have e0 : Txt.findIn (mk l) (mk [c]) (i : Int) (j : Int) = match Builtin.Str.occurrences (mk l) ⟨#[c]⟩ i j 1 with | k :: _ => (k : Int) | [] => -1 := by
    unfold Txt.findIn
    rw [hf, ht]
    rfl
  rw [e0, StrLaws.occ_eq]
  rcases StrLaws.occ_first (mk l) ⟨#[c]⟩ j 1 (Nat.le_refl 1) (List.range' i (j + 1 - i)) i (fun v hv => by have := List.mem_range'_1.mp hv; omega) with ⟨h0, hn⟩ | ⟨pre, a, post, e, h0, ha, hn⟩
  · rw [h0]
    have : fstN (fun v => decide (l.getD v 0 = c)) i (j - i) = none := fstN_none fun v h1 h2 => decide_eq_false fun z => hn v (by rw [List.mem_range'_1]; omega) ((at_one l c j v hj).mpr ⟨by omega, z⟩)
    rw [this]
  · obtain ⟨s1, s2⟩ := StrLaws.range'_split_from e
    obtain ⟨a1, a2⟩ := (at_one l c j a hj).mp ha
    have : fstN (fun v => decide (l.getD v 0 = c)) i (j - i) = some a := fstN_some s1 (by omega) (decide_eq_true a2) fun v h1 h2 => decide_eq_false fun z => hn v (s2 v h1 h2) ((at_one l c j v hj).mpr ⟨by omega, z⟩)
    rw [this]
    generalize (forIn (List.range' i (j + 1 - i)) ((#[] : Array Nat), i) (StrLaws.occBody (mk l) ⟨#[c]⟩ j 1)).run.fst = arr at h0 ⊢
    have h1 : arr.toList[0]? = some a := by simpa using h0
    cases hL : arr.toList with
    | nil => rw [hL] at h1; cases h1
    | cons b t => rw [hL] at h1; simp at h1; rw [h1]
theorem last_mem (s sub : Str) (hi a : Nat) : ∀ (l : List Nat) (st : Option Nat), (forIn l st (StrLaws.lastBody s sub hi)).run = some a → st = some a ∨ a ∈ l
  | [], st, h => .inl h
  | b :: l, st, h => by
    rw [List.forIn_cons] at h
    unfold StrLaws.lastBody at h
    split at h
    · rcases last_mem s sub hi a l (some b) h with e | e
      · cases e; exact .inr (List.mem_cons_self ..)
      · exact .inr (List.mem_cons_of_mem _ e)
    · rcases last_mem s sub hi a l st h with e | e
      · exact .inl e
      · exact .inr (List.mem_cons_of_mem _ e)
theorem rfind4_sg (l : List Nat) (c i j : Nat) (hj : j ≤ l.length) : Txt.rfindIn (mk l) (mk [c]) (i : Int) (j : Int) = match lstN (fun v => decide (l.getD v 0 = c)) i (j - i) with
    | some k => (k : Int)
    | none => -1 := by
  have hf : PySem.fromIndex (mk l).length (i : Int) = i := by
    unfold PySem.fromIndex
    rw [if_neg (by omega)]
    omega
  have ht : toIndexW (mk l).length (j : Int) = j := by
    unfold toIndexW
    rw [if_neg (by omega), mk_len]
    omega
  have e0 : Txt.rfindIn (mk l) (mk [c]) (i : Int) (j : Int) = match Builtin.Str.lastOccurrence (mk l) ⟨#[c]⟩ i j with | some k => (k : Int) | none => -1 := by
    unfold Txt.rfindIn
    rw [hf, ht]
    rfl
  rw [e0, StrLaws.last_eq]
  have key := StrLaws.last_run (mk l) ⟨#[c]⟩ j (List.range' i (j + 1 - i)) [] none (fun _ h => nomatch h) (fun _ h => nomatch h) (List.pairwise_lt_range' (s := i) (n := j + 1 - i))
  rw [List.nil_append] at key
  revert key
  have hmem := fun a => last_mem (mk l) ⟨#[c]⟩ j a (List.range' i (j + 1 - i)) none
  revert hmem
  cases (forIn (List.range' i (j + 1 - i)) none (StrLaws.lastBody (mk l) ⟨#[c]⟩ j)).run with
  | none =>
    intro _ key
    have key' : ∀ v ∈ List.range' i (j + 1 - i), ¬ StrLaws.At (mk l) ⟨#[c]⟩ j v := key
    rw [lstN_none fun v h1 h2 => decide_eq_false fun z => key' v (by rw [List.mem_range'_1]; omega) ((at_one l c j v hj).mpr ⟨by omega, z⟩)]
  | some a =>
    intro hmem key
    obtain ⟨ha, hn⟩ := (show StrLaws.At (mk l) ⟨#[c]⟩ j a ∧ ∀ v ∈ List.range' i (j + 1 - i), a < v → ¬ StrLaws.At (mk l) ⟨#[c]⟩ j v from key)
    obtain ⟨a1, a2⟩ := (at_one l c j a hj).mp ha
    by_cases hia : i ≤ a
    · rw [lstN_some hia (by omega) (decide_eq_true a2) fun v h1 h2 => decide_eq_false fun z => hn v (by rw [List.mem_range'_1]; omega) h1 ((at_one l c j v hj).mpr ⟨by omega, z⟩)]
    · rcases hmem a rfl with e | e
      · cases e
      · have := List.mem_range'_1.mp e
        omega
/-! ### methods told by the class -/
theorem mDsp_ev {Γ : Env} (m : Str) (T : Dsp) (mo : Env → R D) (ma : Env → R (List D)) : mDsp m T mo ma Γ = (mo Γ >>= fun o => dspR m T o >>= fun g => ma Γ >>= fun ds => g (o :: ds)) := rfl
theorem mNew0_ev {Γ : Env} (x : Str) : mNew0 x Γ = .ok (.obj x []) := rfl
theorem mNew1_ev {Γ : Env} (x f : Str) (me : Env → R D) : mNew1 x f me Γ = (me Γ >>= fun d => .ok (.obj x [(f, d)])) := rfl
theorem mFld_ev {Γ : Env} (L : List Str) (f : Str) (mo : Env → R D) : mFld L f mo Γ = (mo Γ >>= fun o => fldR L f o) := rfl
end FL

set_option Elab.async false
set_option linter.all false
set_option maxRecDepth 100000
set_option maxHeartbeats 4000000
/-! ### the text of law_k16_counts: its defs, their plain functions -/
namespace LW
open PySem PySem.Spec PyProof.Rows L2 FL
set_option autoImplicit false
def topS (i : Nat) : Stmt := PySem.Challenge.pw_modehand_k16_counts.main.body.getD i (.Pass ⟨0, 0, 0, 0⟩)
def clsB (s : Stmt) (j : Nat) : Stmt := match s with
  | .ClassDef _ _ _ b _ _ _ _ _ _ _ => b.getD j (.Pass ⟨0, 0, 0, 0⟩)
  | _ => .Pass ⟨0, 0, 0, 0⟩
abbrev s_row_count : Stmt := topS 5
abbrev s_signs_ahead : Stmt := topS 6
abbrev s_row_of : Stmt := topS 7
abbrev s_column_of : Stmt := topS 8
abbrev s_begin_of : Stmt := topS 9
abbrev s_end_of : Stmt := topS 10
abbrev s_place_of : Stmt := topS 11
abbrev s_has_word_sign : Stmt := topS 16
abbrev s_begins : Stmt := topS 17
abbrev s_ends : Stmt := topS 18
abbrev s_met_at : Stmt := topS 19
abbrev s_partner : Stmt := topS 20
abbrev s_Move__step : Stmt := clsB (topS 22) 0
abbrev s_Left__step : Stmt := clsB (topS 24) 0
abbrev s_Right__step : Stmt := clsB (topS 25) 0
abbrev s_Down__step : Stmt := clsB (topS 26) 0
abbrev s_Up__step : Stmt := clsB (topS 27) 0
abbrev s_RowBegin__step : Stmt := clsB (topS 28) 0
abbrev s_RowEnd__step : Stmt := clsB (topS 29) 0
abbrev s_WordOn__step : Stmt := clsB (topS 30) 0
abbrev s_WordBack__step : Stmt := clsB (topS 31) 0
abbrev s_WordOut__step : Stmt := clsB (topS 32) 0
abbrev s_Find__step : Stmt := clsB (topS 33) 1
abbrev s_Trace__step : Stmt := clsB (topS 34) 1
abbrev s_TextEnd__step : Stmt := clsB (topS 36) 0
abbrev s_Across__step : Stmt := clsB (topS 37) 0
abbrev s_Mark__step : Stmt := clsB (topS 38) 1
abbrev s_Move__made : Stmt := clsB (topS 22) 1
abbrev s_Once__made : Stmt := clsB (topS 23) 0
abbrev s_RowNumber__made : Stmt := clsB (topS 35) 0
abbrev s_row_move : Stmt := topS 39
abbrev s_move_of : Stmt := topS 40
abbrev s_gone : Stmt := topS 41
abbrev s_by_rows : Stmt := topS 42
abbrev s__law_cell_at : Stmt := topS 44
abbrev s__law_whole : Stmt := topS 45
abbrev s__law_same : Stmt := topS 46
abbrev s__law_sign : Stmt := topS 47
abbrev s__law_text : Stmt := topS 48
abbrev s__law_keys : Stmt := topS 49
abbrev s__law_many : Stmt := topS 50
abbrev s__law_by_rows : Stmt := topS 51
abbrev s_law : Stmt := topS 52
abbrev si_Find : Stmt := clsB (topS 33) 0
abbrev si_Trace : Stmt := clsB (topS 34) 0
abbrev si_Mark : Stmt := clsB (topS 38) 0
def fa : List He.Fa := [.free "len", .glo "NoPlace", .exc "NoPlace", .glo "NoRow", .exc "NoRow", .free "range", .free "min", .str "WORD_SIGNS" "abcdefghijklmnopqrstuvwxyzABCDEFGHIJKLMNOPQRSTUVWXYZ0123456789", .str "OPENS" "([{", .free "list", .str "CLOSES" ")]}", .glo "Find", .cls "Find", .noat "Find" "sign", .glo "Trace", .cls "Trace", .noat "Trace" "sign", .glo "Mark", .cls "Mark", .noat "Mark" "where", .glo "Left", .glo "Right", .glo "Down", .glo "Up", .glo "RowBegin", .glo "RowEnd", .glo "RowNumber", .glo "WordOn", .glo "WordBack", .glo "WordOut", .glo "TextEnd", .glo "Across", .free "bool", .free "isinstance", .free "int", .glo "law", .glo "row_count", .glo "signs_ahead", .glo "row_of", .glo "column_of", .glo "begin_of", .glo "end_of", .glo "place_of", .glo "has_word_sign", .glo "begins", .glo "ends", .glo "met_at", .glo "partner", .cls "RowNumber", .meth "RowNumber" "step", .cls "Left", .meth "Left" "step", .cls "Right", .meth "Right" "step", .cls "Down", .meth "Down" "step", .cls "Up", .meth "Up" "step", .cls "RowBegin", .meth "RowBegin" "step", .cls "RowEnd", .meth "RowEnd" "step", .cls "WordOn", .meth "WordOn" "step", .cls "WordBack", .meth "WordBack" "step", .cls "WordOut", .meth "WordOut" "step", .meth "Find" "step", .meth "Trace" "step", .cls "TextEnd", .meth "TextEnd" "step", .cls "Across", .meth "Across" "step", .meth "Mark" "step", .meth "Left" "made", .meth "Right" "made", .meth "Down" "made", .meth "Up" "made", .meth "WordOn" "made", .meth "WordBack" "made", .meth "WordOut" "made", .meth "Find" "made", .meth "Trace" "made", .meth "Across" "made", .meth "RowBegin" "made", .meth "RowEnd" "made", .meth "TextEnd" "made", .meth "Mark" "made", .meth "RowNumber" "made", .glo "row_move", .glo "move_of", .glo "gone", .glo "by_rows", .glo "_law_cell_at", .glo "_law_whole", .glo "_law_same", .glo "_law_sign", .glo "_law_text", .glo "_law_keys", .glo "_law_many", .glo "_law_by_rows", .mkr "Find", .mkr "Trace", .mkr "Mark"]
def dm_RowNumber_step : He.DefD := ⟨("RowNumber", some "step"), "step", "Move.step", defArgs s_Move__step, defBody s_Move__step, defScope s_Move__step, [], []⟩
def dm_Left_step : He.DefD := ⟨("Left", some "step"), "step", "Left.step", defArgs s_Left__step, defBody s_Left__step, defScope s_Left__step, [], []⟩
def dm_Right_step : He.DefD := ⟨("Right", some "step"), "step", "Right.step", defArgs s_Right__step, defBody s_Right__step, defScope s_Right__step, [], []⟩
def dm_Down_step : He.DefD := ⟨("Down", some "step"), "step", "Down.step", defArgs s_Down__step, defBody s_Down__step, defScope s_Down__step, [], []⟩
def dm_Up_step : He.DefD := ⟨("Up", some "step"), "step", "Up.step", defArgs s_Up__step, defBody s_Up__step, defScope s_Up__step, [], []⟩
def dm_RowBegin_step : He.DefD := ⟨("RowBegin", some "step"), "step", "RowBegin.step", defArgs s_RowBegin__step, defBody s_RowBegin__step, defScope s_RowBegin__step, [], []⟩
def dm_RowEnd_step : He.DefD := ⟨("RowEnd", some "step"), "step", "RowEnd.step", defArgs s_RowEnd__step, defBody s_RowEnd__step, defScope s_RowEnd__step, [], []⟩
def dm_WordOn_step : He.DefD := ⟨("WordOn", some "step"), "step", "WordOn.step", defArgs s_WordOn__step, defBody s_WordOn__step, defScope s_WordOn__step, [], []⟩
def dm_WordBack_step : He.DefD := ⟨("WordBack", some "step"), "step", "WordBack.step", defArgs s_WordBack__step, defBody s_WordBack__step, defScope s_WordBack__step, [], []⟩
def dm_WordOut_step : He.DefD := ⟨("WordOut", some "step"), "step", "WordOut.step", defArgs s_WordOut__step, defBody s_WordOut__step, defScope s_WordOut__step, [], []⟩
def dm_Find_step : He.DefD := ⟨("Find", some "step"), "step", "Find.step", defArgs s_Find__step, defBody s_Find__step, defScope s_Find__step, [], []⟩
def dm_Trace_step : He.DefD := ⟨("Trace", some "step"), "step", "Trace.step", defArgs s_Trace__step, defBody s_Trace__step, defScope s_Trace__step, [], []⟩
def dm_TextEnd_step : He.DefD := ⟨("TextEnd", some "step"), "step", "TextEnd.step", defArgs s_TextEnd__step, defBody s_TextEnd__step, defScope s_TextEnd__step, [], []⟩
def dm_Across_step : He.DefD := ⟨("Across", some "step"), "step", "Across.step", defArgs s_Across__step, defBody s_Across__step, defScope s_Across__step, [], []⟩
def dm_Mark_step : He.DefD := ⟨("Mark", some "step"), "step", "Mark.step", defArgs s_Mark__step, defBody s_Mark__step, defScope s_Mark__step, [], []⟩
def dm_Left_made : He.DefD := ⟨("Left", some "made"), "made", "Move.made", defArgs s_Move__made, defBody s_Move__made, defScope s_Move__made, [], []⟩
def dm_Right_made : He.DefD := ⟨("Right", some "made"), "made", "Move.made", defArgs s_Move__made, defBody s_Move__made, defScope s_Move__made, [], []⟩
def dm_Down_made : He.DefD := ⟨("Down", some "made"), "made", "Move.made", defArgs s_Move__made, defBody s_Move__made, defScope s_Move__made, [], []⟩
def dm_Up_made : He.DefD := ⟨("Up", some "made"), "made", "Move.made", defArgs s_Move__made, defBody s_Move__made, defScope s_Move__made, [], []⟩
def dm_WordOn_made : He.DefD := ⟨("WordOn", some "made"), "made", "Move.made", defArgs s_Move__made, defBody s_Move__made, defScope s_Move__made, [], []⟩
def dm_WordBack_made : He.DefD := ⟨("WordBack", some "made"), "made", "Move.made", defArgs s_Move__made, defBody s_Move__made, defScope s_Move__made, [], []⟩
def dm_WordOut_made : He.DefD := ⟨("WordOut", some "made"), "made", "Move.made", defArgs s_Move__made, defBody s_Move__made, defScope s_Move__made, [], []⟩
def dm_Find_made : He.DefD := ⟨("Find", some "made"), "made", "Move.made", defArgs s_Move__made, defBody s_Move__made, defScope s_Move__made, [], []⟩
def dm_Trace_made : He.DefD := ⟨("Trace", some "made"), "made", "Move.made", defArgs s_Move__made, defBody s_Move__made, defScope s_Move__made, [], []⟩
def dm_Across_made : He.DefD := ⟨("Across", some "made"), "made", "Move.made", defArgs s_Move__made, defBody s_Move__made, defScope s_Move__made, [], []⟩
def dm_RowBegin_made : He.DefD := ⟨("RowBegin", some "made"), "made", "Once.made", defArgs s_Once__made, defBody s_Once__made, defScope s_Once__made, [], []⟩
def dm_RowEnd_made : He.DefD := ⟨("RowEnd", some "made"), "made", "Once.made", defArgs s_Once__made, defBody s_Once__made, defScope s_Once__made, [], []⟩
def dm_TextEnd_made : He.DefD := ⟨("TextEnd", some "made"), "made", "Once.made", defArgs s_Once__made, defBody s_Once__made, defScope s_Once__made, [], []⟩
def dm_Mark_made : He.DefD := ⟨("Mark", some "made"), "made", "Once.made", defArgs s_Once__made, defBody s_Once__made, defScope s_Once__made, [], []⟩
def dm_RowNumber_made : He.DefD := ⟨("RowNumber", some "made"), "made", "RowNumber.made", defArgs s_RowNumber__made, defBody s_RowNumber__made, defScope s_RowNumber__made, [], []⟩
def di_Find : He.DefD := ⟨("Find", some "__init__"), "__init__", "Find.__init__", defArgs si_Find, defBody si_Find, defScope si_Find, [], []⟩
def di_Trace : He.DefD := ⟨("Trace", some "__init__"), "__init__", "Trace.__init__", defArgs si_Trace, defBody si_Trace, defScope si_Trace, [], []⟩
def di_Mark : He.DefD := ⟨("Mark", some "__init__"), "__init__", "Mark.__init__", defArgs si_Mark, defBody si_Mark, defScope si_Mark, [], []⟩
def d_row_count : He.DefD := ⟨("row_count", none), "row_count", "row_count", defArgs s_row_count, defBody s_row_count, defScope s_row_count, [], []⟩
def d_signs_ahead : He.DefD := ⟨("signs_ahead", none), "signs_ahead", "signs_ahead", defArgs s_signs_ahead, defBody s_signs_ahead, defScope s_signs_ahead, [], []⟩
def d_row_of : He.DefD := ⟨("row_of", none), "row_of", "row_of", defArgs s_row_of, defBody s_row_of, defScope s_row_of, [], []⟩
def d_column_of : He.DefD := ⟨("column_of", none), "column_of", "column_of", defArgs s_column_of, defBody s_column_of, defScope s_column_of, [], []⟩
def d_begin_of : He.DefD := ⟨("begin_of", none), "begin_of", "begin_of", defArgs s_begin_of, defBody s_begin_of, defScope s_begin_of, [], []⟩
def d_end_of : He.DefD := ⟨("end_of", none), "end_of", "end_of", defArgs s_end_of, defBody s_end_of, defScope s_end_of, [], []⟩
def d_place_of : He.DefD := ⟨("place_of", none), "place_of", "place_of", defArgs s_place_of, defBody s_place_of, defScope s_place_of, [], []⟩
def d_has_word_sign : He.DefD := ⟨("has_word_sign", none), "has_word_sign", "has_word_sign", defArgs s_has_word_sign, defBody s_has_word_sign, defScope s_has_word_sign, [], []⟩
def d_begins : He.DefD := ⟨("begins", none), "begins", "begins", defArgs s_begins, defBody s_begins, defScope s_begins, [], []⟩
def d_ends : He.DefD := ⟨("ends", none), "ends", "ends", defArgs s_ends, defBody s_ends, defScope s_ends, [], []⟩
def d_met_at : He.DefD := ⟨("met_at", none), "met_at", "met_at", defArgs s_met_at, defBody s_met_at, defScope s_met_at, [], []⟩
def d_partner : He.DefD := ⟨("partner", none), "partner", "partner", defArgs s_partner, defBody s_partner, defScope s_partner, [], []⟩
def d_row_move : He.DefD := ⟨("row_move", none), "row_move", "row_move", defArgs s_row_move, defBody s_row_move, defScope s_row_move, [], []⟩
def d_move_of : He.DefD := ⟨("move_of", none), "move_of", "move_of", defArgs s_move_of, defBody s_move_of, defScope s_move_of, [], []⟩
def d_gone : He.DefD := ⟨("gone", none), "gone", "gone", defArgs s_gone, defBody s_gone, defScope s_gone, [.non, .non], []⟩
def d_by_rows : He.DefD := ⟨("by_rows", none), "by_rows", "by_rows", defArgs s_by_rows, defBody s_by_rows, defScope s_by_rows, [], []⟩
def d__law_cell_at : He.DefD := ⟨("_law_cell_at", none), "_law_cell_at", "_law_cell_at", defArgs s__law_cell_at, defBody s__law_cell_at, defScope s__law_cell_at, [], []⟩
def d__law_whole : He.DefD := ⟨("_law_whole", none), "_law_whole", "_law_whole", defArgs s__law_whole, defBody s__law_whole, defScope s__law_whole, [], []⟩
def d__law_same : He.DefD := ⟨("_law_same", none), "_law_same", "_law_same", defArgs s__law_same, defBody s__law_same, defScope s__law_same, [], []⟩
def d__law_sign : He.DefD := ⟨("_law_sign", none), "_law_sign", "_law_sign", defArgs s__law_sign, defBody s__law_sign, defScope s__law_sign, [], []⟩
def d__law_text : He.DefD := ⟨("_law_text", none), "_law_text", "_law_text", defArgs s__law_text, defBody s__law_text, defScope s__law_text, [], []⟩
def d__law_keys : He.DefD := ⟨("_law_keys", none), "_law_keys", "_law_keys", defArgs s__law_keys, defBody s__law_keys, defScope s__law_keys, [], []⟩
def d__law_many : He.DefD := ⟨("_law_many", none), "_law_many", "_law_many", defArgs s__law_many, defBody s__law_many, defScope s__law_many, [], []⟩
def d__law_by_rows : He.DefD := ⟨("_law_by_rows", none), "_law_by_rows", "_law_by_rows", defArgs s__law_by_rows, defBody s__law_by_rows, defScope s__law_by_rows, [], []⟩
def d_law : He.DefD := ⟨("law", none), "law", "law", defArgs s_law, defBody s_law, defScope s_law, [], []⟩
def fx : List FaX := [.mk0 "Left", .mk0 "Right", .mk0 "Down", .mk0 "Up", .mk0 "RowBegin", .mk0 "RowEnd", .mk0 "RowNumber", .mk0 "WordOn", .mk0 "WordBack", .mk0 "WordOut", .mk0 "TextEnd", .mk0 "Across"]
def fn : List He.DefD := [d_row_count, d_signs_ahead, d_row_of, d_column_of, d_begin_of, d_end_of, d_place_of, d_has_word_sign, d_begins, d_ends, d_met_at, d_partner, d_row_move, d_move_of, d_gone, d_by_rows, d__law_cell_at, d__law_whole, d__law_same, d__law_sign, d__law_text, d__law_keys, d__law_many, d__law_by_rows, d_law, dm_RowNumber_step, dm_Left_step, dm_Right_step, dm_Down_step, dm_Up_step, dm_RowBegin_step, dm_RowEnd_step, dm_WordOn_step, dm_WordBack_step, dm_WordOut_step, dm_Find_step, dm_Trace_step, dm_TextEnd_step, dm_Across_step, dm_Mark_step, dm_Left_made, dm_Right_made, dm_Down_made, dm_Up_made, dm_WordOn_made, dm_WordBack_made, dm_WordOut_made, dm_Find_made, dm_Trace_made, dm_Across_made, dm_RowBegin_made, dm_RowEnd_made, dm_TextEnd_made, dm_Mark_made, dm_RowNumber_made, di_Find, di_Trace, di_Mark]
def ks_76658d : List Nat := [97, 98, 99, 100, 101, 102, 103, 104, 105, 106, 107, 108, 109, 110, 111, 112, 113, 114, 115, 116, 117, 118, 119, 120, 121, 122, 65, 66, 67, 68] ++ [69, 70, 71, 72, 73, 74, 75, 76, 77, 78, 79, 80, 81, 82, 83, 84, 85, 86, 87, 88, 89, 90, 48, 49, 50, 51, 52, 53, 54, 55] ++ [56, 57]
def ks_63cbdf : List Nat := [32, 33, 34, 35, 36, 38, 39, 40, 41, 42, 43, 44, 45, 46, 47, 48, 49, 50, 51, 52, 53, 54, 55, 56, 57, 58, 59, 60, 61, 62] ++ [63, 64, 65, 66, 67, 68, 69, 70, 71, 72, 73, 74, 75, 76, 77, 78, 79, 80, 81, 82, 83, 84, 85, 86, 87, 88, 89, 90, 91, 92] ++ [93, 94, 95, 96, 97, 98, 99, 100, 101, 102, 103, 104, 105, 106, 107, 108, 109, 110, 111, 112, 113, 114, 115, 116, 117, 118, 119, 120, 121, 122] ++ [123, 124, 125]
def b_row_count : FL.Env → SO :=
    (mRet (mOp D.add (mMeth g_count (mVar 0) (mCons (mC (.str [10])) mNil)) (mC (.int 1))))
def p_row_count : List D → R D := mFn 1 b_row_count
theorem u_row_count (x0 : D) : p_row_count [x0] = retD (b_row_count [.val x0]) := rfl
def b_signs_ahead : FL.Env → SO :=
    (mSeq (mIfS (mOr (mT (mOp D.lt (mVar 1) (mC (.int 0)))) (mT (mOp D.gt (mVar 1) (mCall gLen (mCons (mVar 0) mNil)))))
      (mRaise "NoPlace")
      mSkip)
    (mRet (mSl (mVar 0) mPn (mPs (mVar 1)))))
def p_signs_ahead : List D → R D := mFn 2 b_signs_ahead
theorem u_signs_ahead (x0 x1 : D) : p_signs_ahead [x0, x1] = retD (b_signs_ahead [.val x0, .val x1]) := rfl
def b_row_of : FL.Env → SO :=
    (mRet (mMeth g_count (mCall (fun ds => p_signs_ahead (ds ++ [])) (mCons (mVar 0) (mCons (mVar 1) mNil))) (mCons (mC (.str [10])) mNil)))
def p_row_of : List D → R D := mFn 2 b_row_of
theorem u_row_of (x0 x1 : D) : p_row_of [x0, x1] = retD (b_row_of [.val x0, .val x1]) := rfl
def b_column_of : FL.Env → SO :=
    (mRet (mOp D.sub (mOp D.sub (mVar 1) (mMeth g_rfind (mCall (fun ds => p_signs_ahead (ds ++ [])) (mCons (mVar 0) (mCons (mVar 1) mNil))) (mCons (mC (.str [10])) mNil))) (mC (.int 1))))
def p_column_of : List D → R D := mFn 2 b_column_of
theorem u_column_of (x0 x1 : D) : p_column_of [x0, x1] = retD (b_column_of [.val x0, .val x1]) := rfl
def b_begin_of_l1 : FL.Env → SO :=
    (mAsg 2 (mOp D.add (mMeth g_find3 (mVar 0) (mCons (mC (.str [10])) (mCons (mVar 2) mNil))) (mC (.int 1))))
def b_begin_of : FL.Env → SO :=
    (mSeq (mIfS (mOr (mT (mOp D.lt (mVar 1) (mC (.int 0)))) (mT (mOp D.ge (mVar 1) (mCall (fun ds => p_row_count (ds ++ [])) (mCons (mVar 0) mNil)))))
      (mRaise "NoRow")
      mSkip)
    (mSeq (mAsg 2 (mC (.int 0)))
    (mSeq (mFor (mCall gRange1 (mCons (mVar 1) mNil)) (gSet 3) b_begin_of_l1)
    (mRet (mVar 2)))))
def p_begin_of : List D → R D := mFn 4 b_begin_of
theorem u_begin_of (x0 x1 : D) : p_begin_of [x0, x1] = retD (b_begin_of [.val x0, .val x1, .no, .no]) := rfl
def b_end_of : FL.Env → SO :=
    (mSeq (mAsg 2 (mMeth g_find3 (mVar 0) (mCons (mC (.str [10])) (mCons (mCall (fun ds => p_begin_of (ds ++ [])) (mCons (mVar 0) (mCons (mVar 1) mNil))) mNil))))
    (mSeq (mIfS (mT (mOp D.lt (mVar 2) (mC (.int 0))))
      (mRet (mCall gLen (mCons (mVar 0) mNil)))
      mSkip)
    (mRet (mVar 2))))
def p_end_of : List D → R D := mFn 3 b_end_of
theorem u_end_of (x0 x1 : D) : p_end_of [x0, x1] = retD (b_end_of [.val x0, .val x1, .no]) := rfl
def b_place_of : FL.Env → SO :=
    (mRet (mCall gMin2 (mCons (mOp D.add (mCall (fun ds => p_begin_of (ds ++ [])) (mCons (mVar 0) (mCons (mVar 1) mNil))) (mVar 2)) (mCons (mCall (fun ds => p_end_of (ds ++ [])) (mCons (mVar 0) (mCons (mVar 1) mNil))) mNil))))
def p_place_of : List D → R D := mFn 3 b_place_of
theorem u_place_of (x0 x1 x2 : D) : p_place_of [x0, x1, x2] = retD (b_place_of [.val x0, .val x1, .val x2]) := rfl
def b_has_word_sign : FL.Env → SO :=
    (mRet (mAndV (mCh D.le D.lt (mC (.int 0)) (mVar 1) (mCall gLen (mCons (mVar 0) mNil))) (mOp D.in_ (mOp D.ix (mVar 0) (mVar 1)) (mC (.str ks_76658d)))))
def p_has_word_sign : List D → R D := mFn 2 b_has_word_sign
theorem u_has_word_sign (x0 x1 : D) : p_has_word_sign [x0, x1] = retD (b_has_word_sign [.val x0, .val x1]) := rfl
def b_begins : FL.Env → SO :=
    (mRet (mAndV (mCall (fun ds => p_has_word_sign (ds ++ [])) (mCons (mVar 0) (mCons (mVar 1) mNil))) (mNotV (mCall (fun ds => p_has_word_sign (ds ++ [])) (mCons (mVar 0) (mCons (mOp D.sub (mVar 1) (mC (.int 1))) mNil))))))
def p_begins : List D → R D := mFn 2 b_begins
theorem u_begins (x0 x1 : D) : p_begins [x0, x1] = retD (b_begins [.val x0, .val x1]) := rfl
def b_ends : FL.Env → SO :=
    (mRet (mAndV (mCall (fun ds => p_has_word_sign (ds ++ [])) (mCons (mVar 0) (mCons (mOp D.sub (mVar 1) (mC (.int 1))) mNil))) (mNotV (mCall (fun ds => p_has_word_sign (ds ++ [])) (mCons (mVar 0) (mCons (mVar 1) mNil))))))
def p_ends : List D → R D := mFn 2 b_ends
theorem u_ends (x0 x1 : D) : p_ends [x0, x1] = retD (b_ends [.val x0, .val x1]) := rfl
def b_met_at_l1 : FL.Env → SO :=
    (mSeq (mIfS (mT (mOp D.eq (mOp D.ix (mVar 0) (mVar 5)) (mVar 2)))
        (mAsg 4 (mOp D.add (mVar 4) (mC (.int 1))))
        mSkip)
      (mSeq (mIfS (mT (mOp D.eq (mOp D.ix (mVar 0) (mVar 5)) (mVar 3)))
        (mAsg 4 (mOp D.sub (mVar 4) (mC (.int 1))))
        mSkip)
      (mIfS (mT (mOp D.eq (mVar 4) (mC (.int 0))))
        (mRet (mVar 5))
        mSkip)))
def b_met_at : FL.Env → SO :=
    (mSeq (mAsg 4 (mC (.int 0)))
    (mSeq (mFor (mWalk asW (mVar 1)) (gSet 5) b_met_at_l1)
    (mRet (mC .non))))
def p_met_at : List D → R D := mFn 6 b_met_at
theorem u_met_at (x0 x1 x2 x3 : D) : p_met_at [x0, x1, x2, x3] = retD (b_met_at [.val x0, .val x1, .val x2, .val x3, .no, .no]) := rfl
def b_partner : FL.Env → SO :=
    (mSeq (mIfS (mT (mOp D.ge (mVar 1) (mCall gLen (mCons (mVar 0) mNil))))
      (mRet (mC .non))
      mSkip)
    (mSeq (mAsg 2 (mOp D.ix (mVar 0) (mVar 1)))
    (mSeq (mIfS (mT (mOp D.in_ (mVar 2) (mC (.str [40, 91, 123]))))
      (mSeq (mAsg 3 (mLe (mLRg2 (mVar 1) (mCall gLen (mCons (mVar 0) mNil)))))
      (mRet (mCall (fun ds => p_met_at (ds ++ [])) (mCons (mVar 0) (mCons (mVar 3) (mCons (mVar 2) (mCons (mOp D.ix (mC (.str [41, 93, 125])) (mMeth g_sindex (mC (.str [40, 91, 123])) (mCons (mVar 2) mNil))) mNil)))))))
      mSkip)
    (mSeq (mIfS (mT (mOp D.in_ (mVar 2) (mC (.str [41, 93, 125]))))
      (mSeq (mAsg 3 (mLe (mLRg3 (mVar 1) (mNeg (mC (.int 1))) (mNeg (mC (.int 1))))))
      (mRet (mCall (fun ds => p_met_at (ds ++ [])) (mCons (mVar 0) (mCons (mVar 3) (mCons (mVar 2) (mCons (mOp D.ix (mC (.str [40, 91, 123])) (mMeth g_sindex (mC (.str [41, 93, 125])) (mCons (mVar 2) mNil))) mNil)))))))
      mSkip)
    (mRet (mC .non))))))
def p_partner : List D → R D := mFn 4 b_partner
theorem u_partner (x0 x1 : D) : p_partner [x0, x1] = retD (b_partner [.val x0, .val x1, .no, .no]) := rfl
def b_Move__step : FL.Env → SO :=
    (mRet (mC .non))
def p_Move__step : List D → R D := mFn 3 b_Move__step
theorem u_Move__step (x0 x1 x2 : D) : p_Move__step [x0, x1, x2] = retD (b_Move__step [.val x0, .val x1, .val x2]) := rfl
def b_Left__step : FL.Env → SO :=
    (mSeq (mIfS (mT (mOp D.eq (mCall (fun ds => p_column_of (ds ++ [])) (mCons (mVar 1) (mCons (mVar 2) mNil))) (mC (.int 0))))
      (mRet (mC .non))
      mSkip)
    (mRet (mOp D.sub (mVar 2) (mC (.int 1)))))
def p_Left__step : List D → R D := mFn 3 b_Left__step
theorem u_Left__step (x0 x1 x2 : D) : p_Left__step [x0, x1, x2] = retD (b_Left__step [.val x0, .val x1, .val x2]) := rfl
def b_Right__step : FL.Env → SO :=
    (mSeq (mIfS (mT (mOp D.eq (mVar 2) (mCall (fun ds => p_end_of (ds ++ [])) (mCons (mVar 1) (mCons (mCall (fun ds => p_row_of (ds ++ [])) (mCons (mVar 1) (mCons (mVar 2) mNil))) mNil)))))
      (mRet (mC .non))
      mSkip)
    (mRet (mOp D.add (mVar 2) (mC (.int 1)))))
def p_Right__step : List D → R D := mFn 3 b_Right__step
theorem u_Right__step (x0 x1 x2 : D) : p_Right__step [x0, x1, x2] = retD (b_Right__step [.val x0, .val x1, .val x2]) := rfl
def b_Down__step : FL.Env → SO :=
    (mSeq (mAsg 3 (mOp D.add (mCall (fun ds => p_row_of (ds ++ [])) (mCons (mVar 1) (mCons (mVar 2) mNil))) (mC (.int 1))))
    (mSeq (mIfS (mT (mOp D.eq (mVar 3) (mCall (fun ds => p_row_count (ds ++ [])) (mCons (mVar 1) mNil))))
      (mRet (mC .non))
      mSkip)
    (mRet (mCall (fun ds => p_place_of (ds ++ [])) (mCons (mVar 1) (mCons (mVar 3) (mCons (mCall (fun ds => p_column_of (ds ++ [])) (mCons (mVar 1) (mCons (mVar 2) mNil))) mNil)))))))
def p_Down__step : List D → R D := mFn 4 b_Down__step
theorem u_Down__step (x0 x1 x2 : D) : p_Down__step [x0, x1, x2] = retD (b_Down__step [.val x0, .val x1, .val x2, .no]) := rfl
def b_Up__step : FL.Env → SO :=
    (mSeq (mAsg 3 (mOp D.sub (mCall (fun ds => p_row_of (ds ++ [])) (mCons (mVar 1) (mCons (mVar 2) mNil))) (mC (.int 1))))
    (mSeq (mIfS (mT (mOp D.lt (mVar 3) (mC (.int 0))))
      (mRet (mC .non))
      mSkip)
    (mRet (mCall (fun ds => p_place_of (ds ++ [])) (mCons (mVar 1) (mCons (mVar 3) (mCons (mCall (fun ds => p_column_of (ds ++ [])) (mCons (mVar 1) (mCons (mVar 2) mNil))) mNil)))))))
def p_Up__step : List D → R D := mFn 4 b_Up__step
theorem u_Up__step (x0 x1 x2 : D) : p_Up__step [x0, x1, x2] = retD (b_Up__step [.val x0, .val x1, .val x2, .no]) := rfl
def b_RowBegin__step : FL.Env → SO :=
    (mRet (mCall (fun ds => p_begin_of (ds ++ [])) (mCons (mVar 1) (mCons (mCall (fun ds => p_row_of (ds ++ [])) (mCons (mVar 1) (mCons (mVar 2) mNil))) mNil))))
def p_RowBegin__step : List D → R D := mFn 3 b_RowBegin__step
theorem u_RowBegin__step (x0 x1 x2 : D) : p_RowBegin__step [x0, x1, x2] = retD (b_RowBegin__step [.val x0, .val x1, .val x2]) := rfl
def b_RowEnd__step : FL.Env → SO :=
    (mRet (mCall (fun ds => p_end_of (ds ++ [])) (mCons (mVar 1) (mCons (mCall (fun ds => p_row_of (ds ++ [])) (mCons (mVar 1) (mCons (mVar 2) mNil))) mNil))))
def p_RowEnd__step : List D → R D := mFn 3 b_RowEnd__step
theorem u_RowEnd__step (x0 x1 x2 : D) : p_RowEnd__step [x0, x1, x2] = retD (b_RowEnd__step [.val x0, .val x1, .val x2]) := rfl
def b_WordOn__step_l1 : FL.Env → SO :=
    (mIfS (mT (mCall (fun ds => p_begins (ds ++ [])) (mCons (mVar 1) (mCons (mVar 3) mNil))))
        (mRet (mVar 3))
        mSkip)
def b_WordOn__step : FL.Env → SO :=
    (mSeq (mFor (mCall gRange2 (mCons (mOp D.add (mVar 2) (mC (.int 1))) (mCons (mCall gLen (mCons (mVar 1) mNil)) mNil))) (gSet 3) b_WordOn__step_l1)
    (mRet (mC .non)))
def p_WordOn__step : List D → R D := mFn 4 b_WordOn__step
theorem u_WordOn__step (x0 x1 x2 : D) : p_WordOn__step [x0, x1, x2] = retD (b_WordOn__step [.val x0, .val x1, .val x2, .no]) := rfl
def b_WordBack__step_l1 : FL.Env → SO :=
    (mIfS (mT (mCall (fun ds => p_begins (ds ++ [])) (mCons (mVar 1) (mCons (mVar 3) mNil))))
        (mRet (mVar 3))
        mSkip)
def b_WordBack__step : FL.Env → SO :=
    (mSeq (mFor (mCall gRange3 (mCons (mOp D.sub (mVar 2) (mC (.int 1))) (mCons (mNeg (mC (.int 1))) (mCons (mNeg (mC (.int 1))) mNil)))) (gSet 3) b_WordBack__step_l1)
    (mRet (mC .non)))
def p_WordBack__step : List D → R D := mFn 4 b_WordBack__step
theorem u_WordBack__step (x0 x1 x2 : D) : p_WordBack__step [x0, x1, x2] = retD (b_WordBack__step [.val x0, .val x1, .val x2, .no]) := rfl
def b_WordOut__step_l1 : FL.Env → SO :=
    (mIfS (mT (mCall (fun ds => p_ends (ds ++ [])) (mCons (mVar 1) (mCons (mVar 3) mNil))))
        (mRet (mVar 3))
        mSkip)
def b_WordOut__step : FL.Env → SO :=
    (mSeq (mFor (mCall gRange2 (mCons (mOp D.add (mVar 2) (mC (.int 1))) (mCons (mOp D.add (mCall gLen (mCons (mVar 1) mNil)) (mC (.int 1))) mNil))) (gSet 3) b_WordOut__step_l1)
    (mRet (mC .non)))
def p_WordOut__step : List D → R D := mFn 4 b_WordOut__step
theorem u_WordOut__step (x0 x1 x2 : D) : p_WordOut__step [x0, x1, x2] = retD (b_WordOut__step [.val x0, .val x1, .val x2, .no]) := rfl
def b_Find__step : FL.Env → SO :=
    (mSeq (mAsg 3 (mMeth g_find4 (mVar 1) (mCons (mFld ["Find"] "sign" (mVar 0)) (mCons (mOp D.add (mVar 2) (mC (.int 1))) (mCons (mCall (fun ds => p_end_of (ds ++ [])) (mCons (mVar 1) (mCons (mCall (fun ds => p_row_of (ds ++ [])) (mCons (mVar 1) (mCons (mVar 2) mNil))) mNil))) mNil)))))
    (mSeq (mIfS (mT (mOp D.lt (mVar 3) (mC (.int 0))))
      (mRet (mC .non))
      mSkip)
    (mRet (mVar 3))))
def p_Find__step : List D → R D := mFn 4 b_Find__step
theorem u_Find__step (x0 x1 x2 : D) : p_Find__step [x0, x1, x2] = retD (b_Find__step [.val x0, .val x1, .val x2, .no]) := rfl
def b_Trace__step : FL.Env → SO :=
    (mSeq (mAsg 3 (mMeth g_rfind4 (mVar 1) (mCons (mFld ["Trace"] "sign" (mVar 0)) (mCons (mCall (fun ds => p_begin_of (ds ++ [])) (mCons (mVar 1) (mCons (mCall (fun ds => p_row_of (ds ++ [])) (mCons (mVar 1) (mCons (mVar 2) mNil))) mNil))) (mCons (mVar 2) mNil)))))
    (mSeq (mIfS (mT (mOp D.lt (mVar 3) (mC (.int 0))))
      (mRet (mC .non))
      mSkip)
    (mRet (mVar 3))))
def p_Trace__step : List D → R D := mFn 4 b_Trace__step
theorem u_Trace__step (x0 x1 x2 : D) : p_Trace__step [x0, x1, x2] = retD (b_Trace__step [.val x0, .val x1, .val x2, .no]) := rfl
def b_TextEnd__step : FL.Env → SO :=
    (mRet (mCall gLen (mCons (mVar 1) mNil)))
def p_TextEnd__step : List D → R D := mFn 3 b_TextEnd__step
theorem u_TextEnd__step (x0 x1 x2 : D) : p_TextEnd__step [x0, x1, x2] = retD (b_TextEnd__step [.val x0, .val x1, .val x2]) := rfl
def b_Across__step : FL.Env → SO :=
    (mSeq (mIfS (mAnd (mT (mOp D.lt (mVar 2) (mCall gLen (mCons (mVar 1) mNil)))) (mT (mOp D.in_ (mOp D.ix (mVar 1) (mVar 2)) (mC (.str [40, 91, 123])))))
      (mSeq (mAsg 3 (mCall (fun ds => p_partner (ds ++ [])) (mCons (mVar 1) (mCons (mVar 2) mNil))))
      (mSeq (mIfS (mT (mOp D.isN (mVar 3) (mC .non)))
        (mRet (mC .non))
        mSkip)
      (mRet (mOp D.add (mVar 3) (mC (.int 1))))))
      mSkip)
    (mSeq (mIfS (mAnd (mT (mOp D.gt (mVar 2) (mC (.int 0)))) (mT (mOp D.in_ (mOp D.ix (mVar 1) (mOp D.sub (mVar 2) (mC (.int 1)))) (mC (.str [41, 93, 125])))))
      (mRet (mCall (fun ds => p_partner (ds ++ [])) (mCons (mVar 1) (mCons (mOp D.sub (mVar 2) (mC (.int 1))) mNil))))
      mSkip)
    (mRet (mC .non))))
def p_Across__step : List D → R D := mFn 4 b_Across__step
theorem u_Across__step (x0 x1 x2 : D) : p_Across__step [x0, x1, x2] = retD (b_Across__step [.val x0, .val x1, .val x2, .no]) := rfl
def b_Mark__step : FL.Env → SO :=
    (mRet (mFld ["Mark"] "where" (mVar 0)))
def p_Mark__step : List D → R D := mFn 3 b_Mark__step
theorem u_Mark__step (x0 x1 x2 : D) : p_Mark__step [x0, x1, x2] = retD (b_Mark__step [.val x0, .val x1, .val x2]) := rfl
def disp_step : Dsp := [("RowNumber", p_Move__step), ("Left", p_Left__step), ("Right", p_Right__step), ("Down", p_Down__step), ("Up", p_Up__step), ("RowBegin", p_RowBegin__step), ("RowEnd", p_RowEnd__step), ("WordOn", p_WordOn__step), ("WordBack", p_WordBack__step), ("WordOut", p_WordOut__step), ("Find", p_Find__step), ("Trace", p_Trace__step), ("TextEnd", p_TextEnd__step), ("Across", p_Across__step), ("Mark", p_Mark__step)]
def b_Move__made_l1 : FL.Env → SO :=
    (mIfS (mT (mOp D.notN (mVar 2) (mC .non)))
        (mAsg 2 (mDsp "step" disp_step (mVar 0) (mCons (mVar 1) (mCons (mVar 2) mNil))))
        mSkip)
def b_Move__made : FL.Env → SO :=
    (mSeq (mIfS (mT (mOp D.isN (mVar 3) (mC .non)))
      (mAsg 3 (mC (.int 1)))
      mSkip)
    (mSeq (mFor (mCall gRange1 (mCons (mVar 3) mNil)) (gSet 4) b_Move__made_l1)
    (mRet (mVar 2))))
def p_Move__made : List D → R D := mFn 5 b_Move__made
theorem u_Move__made (x0 x1 x2 x3 : D) : p_Move__made [x0, x1, x2, x3] = retD (b_Move__made [.val x0, .val x1, .val x2, .val x3, .no]) := rfl
def b_Once__made : FL.Env → SO :=
    (mRet (mDsp "step" disp_step (mVar 0) (mCons (mVar 1) (mCons (mVar 2) mNil))))
def p_Once__made : List D → R D := mFn 4 b_Once__made
theorem u_Once__made (x0 x1 x2 x3 : D) : p_Once__made [x0, x1, x2, x3] = retD (b_Once__made [.val x0, .val x1, .val x2, .val x3]) := rfl
def b_RowNumber__made : FL.Env → SO :=
    (mSeq (mIfS (mT (mOp D.isN (mVar 3) (mC .non)))
      (mRet (mC (.int 0)))
      mSkip)
    (mSeq (mIfS (mT (mOp D.gt (mVar 3) (mCall (fun ds => p_row_count (ds ++ [])) (mCons (mVar 1) mNil))))
      (mRet (mC .non))
      mSkip)
    (mRet (mCall (fun ds => p_begin_of (ds ++ [])) (mCons (mVar 1) (mCons (mOp D.sub (mVar 3) (mC (.int 1))) mNil))))))
def p_RowNumber__made : List D → R D := mFn 4 b_RowNumber__made
theorem u_RowNumber__made (x0 x1 x2 x3 : D) : p_RowNumber__made [x0, x1, x2, x3] = retD (b_RowNumber__made [.val x0, .val x1, .val x2, .val x3]) := rfl
def b_row_move : FL.Env → SO :=
    (mSeq (mIfS (mT (mOp D.eq (mVar 0) (mC (.str [104]))))
      (mRet (mNew0 "Left"))
      mSkip)
    (mSeq (mIfS (mT (mOp D.eq (mVar 0) (mC (.str [108]))))
      (mRet (mNew0 "Right"))
      mSkip)
    (mSeq (mIfS (mT (mOp D.eq (mVar 0) (mC (.str [106]))))
      (mRet (mNew0 "Down"))
      mSkip)
    (mSeq (mIfS (mT (mOp D.eq (mVar 0) (mC (.str [107]))))
      (mRet (mNew0 "Up"))
      mSkip)
    (mSeq (mIfS (mT (mOp D.eq (mVar 0) (mC (.str [98]))))
      (mRet (mNew0 "RowBegin"))
      mSkip)
    (mSeq (mIfS (mT (mOp D.eq (mVar 0) (mC (.str [101]))))
      (mRet (mNew0 "RowEnd"))
      mSkip)
    (mSeq (mIfS (mT (mOp D.eq (mVar 0) (mC (.str [103]))))
      (mRet (mNew0 "RowNumber"))
      mSkip)
    (mRet (mC .non)))))))))
def p_row_move : List D → R D := mFn 1 b_row_move
theorem u_row_move (x0 : D) : p_row_move [x0] = retD (b_row_move [.val x0]) := rfl
def b_move_of : FL.Env → SO :=
    (mSeq (mAsg 2 (mOp D.ix (mVar 0) (mC (.int 0))))
    (mSeq (mIfS (mT (mOp D.eq (mVar 2) (mC (.str [119]))))
      (mRet (mNew0 "WordOn"))
      mSkip)
    (mSeq (mIfS (mT (mOp D.eq (mVar 2) (mC (.str [118]))))
      (mRet (mNew0 "WordBack"))
      mSkip)
    (mSeq (mIfS (mT (mOp D.eq (mVar 2) (mC (.str [111]))))
      (mRet (mNew0 "WordOut"))
      mSkip)
    (mSeq (mIfS (mT (mOp D.eq (mVar 2) (mC (.str [102]))))
      (mRet (mNew1 "Find" "sign" (mOp D.ix (mVar 0) (mC (.int 1)))))
      mSkip)
    (mSeq (mIfS (mT (mOp D.eq (mVar 2) (mC (.str [116]))))
      (mRet (mNew1 "Trace" "sign" (mOp D.ix (mVar 0) (mC (.int 1)))))
      mSkip)
    (mSeq (mIfS (mT (mOp D.eq (mVar 2) (mC (.str [122]))))
      (mRet (mNew0 "TextEnd"))
      mSkip)
    (mSeq (mIfS (mT (mOp D.eq (mVar 2) (mC (.str [112]))))
      (mRet (mNew0 "Across"))
      mSkip)
    (mSeq (mIfS (mT (mOp D.eq (mVar 2) (mC (.str [109]))))
      (mRet (mNew1 "Mark" "where" mStk))
      mSkip)
    (mRet (mCall (fun ds => p_row_move (ds ++ [])) (mCons (mVar 2) mNil))))))))))))
def p_move_of : List D → R D := mFn 3 b_move_of
theorem u_move_of (x0 x1 : D) : p_move_of [x0, x1] = retD (b_move_of [.val x0, .val x1, .no]) := rfl
def disp_made : Dsp := [("Left", p_Move__made), ("Right", p_Move__made), ("Down", p_Move__made), ("Up", p_Move__made), ("WordOn", p_Move__made), ("WordBack", p_Move__made), ("WordOut", p_Move__made), ("Find", p_Move__made), ("Trace", p_Move__made), ("Across", p_Move__made), ("RowBegin", p_Once__made), ("RowEnd", p_Once__made), ("TextEnd", p_Once__made), ("Mark", p_Once__made), ("RowNumber", p_RowNumber__made)]
def b_gone : FL.Env → SO :=
    (mSeq (mIfS (mT (mOp D.isN (mVar 4) (mC .non)))
      (mAsg 4 (mC (.dct [])))
      mSkip)
    (mRet (mDsp "made" disp_made (mCall (fun ds => p_move_of (ds ++ [])) (mCons (mVar 0) (mCons (mVar 4) mNil))) (mCons (mVar 1) (mCons (mVar 2) (mCons (mVar 3) mNil))))))
def p_gone : List D → R D := mFn 5 b_gone
theorem u_gone (x0 x1 x2 x3 x4 : D) : p_gone [x0, x1, x2, x3, x4] = retD (b_gone [.val x0, .val x1, .val x2, .val x3, .val x4]) := rfl
def b_by_rows : FL.Env → SO :=
    (mRet (mOp D.in_ (mVar 0) (mTup (mCons (mC (.str [106])) (mCons (mC (.str [107])) (mCons (mC (.str [103])) mNil))))))
def p_by_rows : List D → R D := mFn 1 b_by_rows
theorem u_by_rows (x0 : D) : p_by_rows [x0] = retD (b_by_rows [.val x0]) := rfl
def b__law_cell_at : FL.Env → SO :=
    (mSeq (mIfS (mT (mOp D.lt (mVar 1) (mCall gLen (mCons (mVar 0) mNil))))
      (mRet (mOp D.ix (mVar 0) (mVar 1)))
      mSkip)
    (mRet (mC (.int 0))))
def p__law_cell_at : List D → R D := mFn 2 b__law_cell_at
theorem u__law_cell_at (x0 x1 : D) : p__law_cell_at [x0, x1] = retD (b__law_cell_at [.val x0, .val x1]) := rfl
def b__law_whole : FL.Env → SO :=
    (mRet (mAndV (mCall gIsi (mCons (mVar 0) (mCons (mC (.ty "int")) mNil))) (mNotV (mCall gIsi (mCons (mVar 0) (mCons (mC (.ty "bool")) mNil))))))
def p__law_whole : List D → R D := mFn 1 b__law_whole
theorem u__law_whole (x0 : D) : p__law_whole [x0] = retD (b__law_whole [.val x0]) := rfl
def b__law_same : FL.Env → SO :=
    (mSeq (mIfS (mT (mOp D.isN (mVar 1) (mC .non)))
      (mRet (mOp D.isN (mVar 0) (mC .non)))
      mSkip)
    (mRet (mAndV (mCall (fun ds => p__law_whole (ds ++ [])) (mCons (mVar 0) mNil)) (mOp D.eq (mVar 0) (mVar 1)))))
def p__law_same : List D → R D := mFn 2 b__law_same
theorem u__law_same (x0 x1 : D) : p__law_same [x0, x1] = retD (b__law_same [.val x0, .val x1]) := rfl
def b__law_sign : FL.Env → SO :=
    (mSeq (mAsg 1 (mC (.str ks_63cbdf)))
    (mSeq (mAsg 2 (mOp D.mod (mVar 0) (mC (.int 8))))
    (mSeq (mIfS (mT (mOp D.eq (mVar 2) (mC (.int 0))))
      (mRet (mC (.str [10])))
      mSkip)
    (mSeq (mIfS (mT (mOp D.eq (mVar 2) (mC (.int 1))))
      (mRet (mC (.str [32])))
      mSkip)
    (mSeq (mIfS (mT (mOp D.eq (mVar 2) (mC (.int 2))))
      (mRet (mOp D.ix (mC (.str [40, 41, 91, 93, 123, 125])) (mOp D.mod (mOp D.fdiv (mVar 0) (mC (.int 8))) (mC (.int 6)))))
      mSkip)
    (mSeq (mIfS (mT (mOp D.lt (mVar 2) (mC (.int 6))))
      (mRet (mOp D.ix (mC (.str [97, 66, 48, 32, 122, 57, 89, 40, 120, 99, 41, 100, 49, 69, 32, 102])) (mOp D.mod (mOp D.fdiv (mVar 0) (mC (.int 8))) (mC (.int 16)))))
      mSkip)
    (mRet (mOp D.ix (mVar 1) (mOp D.mod (mOp D.fdiv (mVar 0) (mC (.int 8))) (mC (.int 93)))))))))))
def p__law_sign : List D → R D := mFn 3 b__law_sign
theorem u__law_sign (x0 : D) : p__law_sign [x0] = retD (b__law_sign [.val x0, .no, .no]) := rfl
def b__law_text_c1 : FL.Env → R D :=
    (mCall (fun ds => p__law_sign (ds ++ [])) (mCons (mVar 3) mNil))
def b__law_text : FL.Env → SO :=
    (mSeq (mAsg 1 (mLe (mComp [3] (mWalk asW (mSl (mVar 0) (mPs (mC (.int 2))) (mPs (mC (.int 62))))) (gSet 3) mYes b__law_text_c1)))
    (mSeq (mAsg 2 (mMeth g_join (mC (.str [])) (mCons (mVar 1) mNil)))
    (mSeq (mIfS (mAnd (mT (mOp D.eq (mOp D.mod (mCall (fun ds => p__law_cell_at (ds ++ [])) (mCons (mVar 0) (mCons (mC (.int 0)) mNil))) (mC (.int 5))) (mC (.int 1)))) (mT (mOp D.gt (mCall gLen (mCons (mVar 1) mNil)) (mC (.int 0)))))
      (mAsg 2 (mSl (mOp D.mul (mVar 2) (mOp D.add (mOp D.fdiv (mC (.int 600)) (mCall gLen (mCons (mVar 1) mNil))) (mC (.int 1)))) mPn (mPs (mOp D.sub (mC (.int 600)) (mOp D.mod (mOp D.fdiv (mCall (fun ds => p__law_cell_at (ds ++ [])) (mCons (mVar 0) (mCons (mC (.int 0)) mNil))) (mC (.int 5))) (mC (.int 9)))))))
      mSkip)
    (mRet (mVar 2)))))
def p__law_text : List D → R D := mFn 4 b__law_text
theorem u__law_text (x0 : D) : p__law_text [x0] = retD (b__law_text [.val x0, .no, .no, .no]) := rfl
def b__law_keys : FL.Env → SO :=
    (mSeq (mAsg 2 (mOp D.ix (mC (.str [104, 108, 106, 107, 119, 118, 111, 102, 116, 112, 98, 101, 122])) (mOp D.mod (mVar 1) (mC (.int 13)))))
    (mSeq (mIfS (mAnd (mT (mOp D.ne (mVar 2) (mC (.str [102])))) (mT (mOp D.ne (mVar 2) (mC (.str [116])))))
      (mRet (mVar 2))
      mSkip)
    (mSeq (mAsg 3 (mC (.str [32])))
    (mSeq (mIfS (mT (mOp D.gt (mCall gLen (mCons (mVar 0) mNil)) (mC (.int 0))))
      (mAsg 3 (mOp D.ix (mVar 0) (mOp D.mod (mOp D.fdiv (mVar 1) (mC (.int 13))) (mCall gLen (mCons (mVar 0) mNil)))))
      mSkip)
    (mSeq (mIfS (mT (mOp D.eq (mVar 3) (mC (.str [10]))))
      (mAsg 3 (mC (.str [32])))
      mSkip)
    (mRet (mOp D.add (mVar 2) (mVar 3))))))))
def p__law_keys : List D → R D := mFn 4 b__law_keys
theorem u__law_keys (x0 x1 : D) : p__law_keys [x0, x1] = retD (b__law_keys [.val x0, .val x1, .no, .no]) := rfl
def b__law_many_l1 : FL.Env → SO :=
    (mIfS (mT (mOp D.notN (mVar 2) (mC .non)))
        (mAsg 2 (mCall (fun ds => p_gone (ds ++ [.non, .non])) (mCons (mVar 1) (mCons (mVar 0) (mCons (mVar 2) mNil)))))
        mSkip)
def b__law_many : FL.Env → SO :=
    (mSeq (mIfS (mT (mOp D.in_ (mVar 1) (mTup (mCons (mC (.str [98])) (mCons (mC (.str [101])) (mCons (mC (.str [122])) mNil))))))
      (mRet (mCall (fun ds => p_gone (ds ++ [.non, .non])) (mCons (mVar 1) (mCons (mVar 0) (mCons (mVar 2) mNil)))))
      mSkip)
    (mSeq (mFor (mCall gRange1 (mCons (mVar 3) mNil)) (gSet 4) b__law_many_l1)
    (mRet (mVar 2))))
def p__law_many : List D → R D := mFn 5 b__law_many
theorem u__law_many (x0 x1 x2 x3 : D) : p__law_many [x0, x1, x2, x3] = retD (b__law_many [.val x0, .val x1, .val x2, .val x3, .no]) := rfl
def b__law_by_rows_l1 : FL.Env → SO :=
    (mSeq (mAsg 1 (mCall (fun ds => p_by_rows (ds ++ [])) (mCons (mVar 0) mNil)))
      (mIfS (mOr (mNot (mT (mCall gIsi (mCons (mVar 1) (mCons (mC (.ty "bool")) mNil))))) (mT (mOp D.ne (mVar 1) (mOp D.in_ (mVar 0) (mLe (mLst (mCons (mC (.str [106])) (mCons (mC (.str [107])) (mCons (mC (.str [103])) mNil)))))))))
        (mRet (mC (.bl false)))
        mSkip))
def b__law_by_rows : FL.Env → SO :=
    (mSeq (mFor (mWalk asW (mLe (mLst (mCons (mC (.str [104])) (mCons (mC (.str [108])) (mCons (mC (.str [106])) (mCons (mC (.str [107])) (mCons (mC (.str [98])) (mCons (mC (.str [101])) (mCons (mC (.str [119])) (mCons (mC (.str [118])) (mCons (mC (.str [111])) (mCons (mC (.str [103])) (mCons (mC (.str [122])) (mCons (mC (.str [112])) (mCons (mC (.str [102, 106])) (mCons (mC (.str [116, 107])) (mCons (mC (.str [109, 103])) (mCons (mC (.str [102, 32])) (mCons (mC (.str [109, 106])) (mCons (mC (.str [116, 41])) mNil))))))))))))))))))))) (gSet 0) b__law_by_rows_l1)
    (mRet (mC (.bl true))))
def p__law_by_rows : List D → R D := mFn 2 b__law_by_rows
theorem u__law_by_rows  : p__law_by_rows [] = retD (b__law_by_rows [.no, .no]) := rfl
def b_law_l1 : FL.Env → SO :=
    (mSeq (mAsg 5 (mOp D.mod (mOp D.mul (mVar 4) (mC (.int 69621))) (mC (.int 2147483629))))
      (mSeq (mAsg 6 (mOp D.mod (mOp D.mod (mOp D.mul (mVar 4) (mC (.int 48271))) (mC (.int 2147483647))) (mOp D.add (mCall gLen (mCons (mVar 1) mNil)) (mC (.int 1)))))
      (mSeq (mAsg 7 (mCall (fun ds => p__law_keys (ds ++ [])) (mCons (mVar 1) (mCons (mVar 5) mNil))))
      (mSeq (mIfS (mT (mOp D.in_ (mVar 7) (mTup (mCons (mC (.str [106])) (mCons (mC (.str [107])) (mCons (mC (.str [112])) mNil))))))
        (mAsg 3 (mCall gMin2 (mCons (mVar 3) (mCons (mC (.int 99)) mNil))))
        mSkip)
      (mSeq (mAsg 8 (mOp D.add (mC (.int 1)) (mOp D.mod (mOp D.fdiv (mVar 5) (mC (.int 1009))) (mVar 3))))
      (mSeq (mAsg 9 (mCall (fun ds => p__law_many (ds ++ [])) (mCons (mVar 1) (mCons (mVar 7) (mCons (mVar 6) (mCons (mVar 8) mNil))))))
      (mSeq (mIfS (mOr (mNot (mT (mCall (fun ds => p__law_same (ds ++ [])) (mCons (mCall (fun ds => p_gone (ds ++ [.non])) (mCons (mVar 7) (mCons (mVar 1) (mCons (mVar 6) (mCons (mVar 8) mNil))))) (mCons (mVar 9) mNil))))) (mNot (mT (mCall (fun ds => p__law_same (ds ++ [])) (mCons (mCall (fun ds => p_gone (ds ++ [])) (mCons (mVar 7) (mCons (mVar 1) (mCons (mVar 6) (mCons (mVar 8) (mCons (mC (.dct [])) mNil)))))) (mCons (mVar 9) mNil))))))
        (mRet (mC (.bl false)))
        mSkip)
      (mSeq (mIfS (mNot (mT (mCall (fun ds => p__law_same (ds ++ [])) (mCons (mCall (fun ds => p_gone (ds ++ [.non])) (mCons (mVar 7) (mCons (mVar 1) (mCons (mVar 6) (mCons (mC .non) mNil))))) (mCons (mCall (fun ds => p_gone (ds ++ [.non, .non])) (mCons (mVar 7) (mCons (mVar 1) (mCons (mVar 6) mNil)))) mNil)))))
        (mRet (mC (.bl false)))
        mSkip)
      (mAsg 3 (mC (.int 12)))))))))))
def b_law : FL.Env → SO :=
    (mSeq (mAsg 1 (mCall (fun ds => p__law_text (ds ++ [])) (mCons (mVar 0) mNil)))
    (mSeq (mAsg 2 (mSl (mVar 0) (mPs (mC (.int 2))) (mPs (mC (.int 62)))))
    (mSeq (mIfS (mT (mOp D.gt (mCall gLen (mCons (mVar 1) mNil)) (mC (.int 60))))
      (mAsg 2 (mSl (mVar 0) (mPs (mC (.int 2))) (mPs (mC (.int 10)))))
      mSkip)
    (mSeq (mAsg 3 (mC (.int 999)))
    (mSeq (mFor (mWalk asW (mVar 2)) (gSet 4) b_law_l1)
    (mRet (mCall (fun ds => p__law_by_rows (ds ++ [])) mNil)))))))
def p_law : List D → R D := mFn 10 b_law
theorem u_law (x0 : D) : p_law [x0] = retD (b_law [.val x0, .no, .no, .no, .no, .no, .no, .no, .no, .no]) := rfl
section
variable {P : Program} {w : World} {K : PySem.W.Frag} {mg : Str → Option Value} {base : Heap}
theorem sci_Find : FnScope ["self", "sign"] ["self", "sign"] (defScope si_Find) := ⟨rfl, rfl, rfl, by decide +kernel, rfl, by decide +kernel, by decide +kernel⟩
theorem M1_Find (T : TxX fa fn fx K mg) : Mk1 P w K mg base "Find" "sign" :=
  T.mk1 55 11 12 13 102 rfl rfl rfl rfl rfl rfl rfl sci_Find rfl (fun _ _ _ _ _ _ us hl => match us, hl with | [_, _], _ => rfl) (by first | exact Or.inl rfl | exact Or.inr (Or.inl rfl)) (by first | exact Or.inl rfl | exact Or.inr (Or.inl rfl)) (fun _ => rfl)
theorem sci_Trace : FnScope ["self", "sign"] ["self", "sign"] (defScope si_Trace) := ⟨rfl, rfl, rfl, by decide +kernel, rfl, by decide +kernel, by decide +kernel⟩
theorem M1_Trace (T : TxX fa fn fx K mg) : Mk1 P w K mg base "Trace" "sign" :=
  T.mk1 56 14 15 16 103 rfl rfl rfl rfl rfl rfl rfl sci_Trace rfl (fun _ _ _ _ _ _ us hl => match us, hl with | [_, _], _ => rfl) (by first | exact Or.inl rfl | exact Or.inr (Or.inl rfl)) (by first | exact Or.inl rfl | exact Or.inr (Or.inl rfl)) (fun _ => rfl)
theorem sci_Mark : FnScope ["self", "where"] ["self", "where"] (defScope si_Mark) := ⟨rfl, rfl, rfl, by decide +kernel, rfl, by decide +kernel, by decide +kernel⟩
theorem M1_Mark (T : TxX fa fn fx K mg) : Mk1 P w K mg base "Mark" "where" :=
  T.mk1 57 17 18 19 104 rfl rfl rfl rfl rfl rfl rfl sci_Mark rfl (fun _ _ _ _ _ _ us hl => match us, hl with | [_, _], _ => rfl) (by first | exact Or.inl rfl | exact Or.inr (Or.inl rfl)) (by first | exact Or.inl rfl | exact Or.inr (Or.inl rfl)) (fun _ => rfl)
abbrev N_row_count : List PySem.Str := ["text"]
theorem sc_row_count : FnScope ["text"] ["text"] (defScope s_row_count) := ⟨rfl, rfl, rfl, by decide +kernel, rfl, by decide +kernel, by decide +kernel⟩
theorem B_row_count (T : TxX fa fn fx K mg) : FnB P w K mg base "row_count" 1 ["text"] (spV K mg 1 p_row_count) := by
  exact T.t.fnbV 0 36 rfl rfl rfl rfl sc_row_count (fun _ _ _ _ _ _ us hl => match us, hl with | [_], _ => rfl) (fun f cdv A outer s H F0 E hr tk po => ⟨_, (fss_one (fs_ret (fe_op op_addA os_add (FE.r (fe_meth PySem.F.slot_str_count PySem.F.type_str_count mt_count sm_count (fe_var (pv 0)) (fb_cons (FE.r (fe_str [10] (by decide +kernel) (by decide +kernel))) fb_nil))) (FE.r fe_int))))⟩)
abbrev N_signs_ahead : List PySem.Str := ["text", "place"]
theorem sc_signs_ahead : FnScope ["text", "place"] ["text", "place"] (defScope s_signs_ahead) := ⟨rfl, rfl, rfl, by decide +kernel, rfl, by decide +kernel, by decide +kernel⟩
theorem B_signs_ahead (T : TxX fa fn fx K mg) : FnB P w K mg base "signs_ahead" 1 ["text", "place"] (spV K mg 2 p_signs_ahead) := by
  exact T.t.fnbV 1 37 rfl rfl rfl rfl sc_signs_ahead (fun _ _ _ _ _ _ us hl => match us, hl with | [_, _], _ => rfl) (fun f cdv A outer s H F0 E hr tk po => ⟨_, (fss_cons (fs_if (FW.t (fw_or (ft_cmp op_ltA os_lt (FE.r (fe_var (pv 1))) (FE.r fe_int) (nomark _)) (fw_or1 (ft_cmp op_gtA os_gt (FE.r (fe_var (pv 1))) (FE.r (fe_callB call_lenV cs_len rfl (T.free 0 rfl) (by decide +kernel) (fb_cons (FE.r (fe_var (pv 0))) fb_nil))) (nomark _)))))
      (fss_one (fs_raise rfl rfl tk rfl (T.glo 1 rfl) (T.exc 2 rfl)))
      fss_nil)
    (fss_one (fs_ret (fe_slice rfl (FE.r (fe_var (pv 0))) fo_none (fo_some (fe_var (pv 1)))))))⟩)
abbrev N_row_of : List PySem.Str := ["text", "place"]
theorem sc_row_of : FnScope ["text", "place"] ["text", "place"] (defScope s_row_of) := ⟨rfl, rfl, rfl, by decide +kernel, rfl, by decide +kernel, by decide +kernel⟩
theorem B_row_of (T : TxX fa fn fx K mg) : FnB P w K mg base "row_of" 2 ["text", "place"] (spV K mg 2 p_row_of) := by
  have B_signs_ahead := B_signs_ahead (P := P) (w := w) (base := base) T
  exact T.t.fnbV 2 38 rfl rfl rfl rfl sc_row_of (fun _ _ _ _ _ _ us hl => match us, hl with | [_, _], _ => rfl) (fun f cdv A outer s H F0 E hr tk po => ⟨_, (fss_one (fs_ret (fe_meth PySem.F.slot_str_count PySem.F.type_str_count mt_count sm_count (fe_call (FnB.d B_signs_ahead) rfl rfl (hr.mono (by decide)) rfl tk (fa_cons (fe_var (pv 0)) (fa_cons (fe_var (pv 1)) fa_nil)) rfl (mCons_len (mCons_len mNil_len))) (fb_cons (FE.r (fe_str [10] (by decide +kernel) (by decide +kernel))) fb_nil))))⟩)
abbrev N_column_of : List PySem.Str := ["text", "place"]
theorem sc_column_of : FnScope ["text", "place"] ["text", "place"] (defScope s_column_of) := ⟨rfl, rfl, rfl, by decide +kernel, rfl, by decide +kernel, by decide +kernel⟩
theorem B_column_of (T : TxX fa fn fx K mg) : FnB P w K mg base "column_of" 2 ["text", "place"] (spV K mg 2 p_column_of) := by
  have B_signs_ahead := B_signs_ahead (P := P) (w := w) (base := base) T
  exact T.t.fnbV 3 39 rfl rfl rfl rfl sc_column_of (fun _ _ _ _ _ _ us hl => match us, hl with | [_, _], _ => rfl) (fun f cdv A outer s H F0 E hr tk po => ⟨_, (fss_one (fs_ret (fe_op op_sub os_sub (FE.r (fe_op op_sub os_sub (FE.r (fe_var (pv 1))) (FE.r (fe_meth PySem.F.slot_str_rfind PySem.F.type_str_rfind mt_rfind sm_rfind (fe_call (FnB.d B_signs_ahead) rfl rfl (hr.mono (by decide)) rfl tk (fa_cons (fe_var (pv 0)) (fa_cons (fe_var (pv 1)) fa_nil)) rfl (mCons_len (mCons_len mNil_len))) (fb_cons (FE.r (fe_str [10] (by decide +kernel) (by decide +kernel))) fb_nil))))) (FE.r fe_int))))⟩)
abbrev N_begin_of : List PySem.Str := ["text", "row", "place", "number"]
theorem sc_begin_of : FnScope ["text", "row", "place", "number"] ["text", "row"] (defScope s_begin_of) := ⟨rfl, rfl, rfl, by decide +kernel, rfl, by decide +kernel, by decide +kernel⟩
theorem B_begin_of (T : TxX fa fn fx K mg) : FnB P w K mg base "begin_of" 2 ["text", "row"] (spV K mg 2 p_begin_of) := by
  have B_row_count := B_row_count (P := P) (w := w) (base := base) T
  exact T.t.fnbV 4 40 rfl rfl rfl rfl sc_begin_of (fun _ _ _ _ _ _ us hl => match us, hl with | [_, _], _ => rfl) (fun f cdv A outer s H F0 E hr tk po => ⟨_, (fss_cons (fs_if (FW.t (fw_or (ft_cmp op_ltA os_lt (FE.r (fe_var (pv 1))) (FE.r fe_int) (nomark _)) (fw_or1 (ft_cmp op_geA os_ge (FE.r (fe_var (pv 1))) (FE.r (fe_call (FnB.d B_row_count) rfl rfl (hr.mono (by decide)) rfl tk (fa_cons (fe_var (pv 0)) fa_nil) rfl (mCons_len mNil_len))) (nomark _)))))
      (fss_one (fs_raise rfl rfl tk rfl (T.glo 3 rfl) (T.exc 4 rfl)))
      fss_nil)
    (fss_cons (fs_set (i := 2) keeps sc_begin_of.nd rfl (by first | exact .inl rfl | exact .inr rfl) fe_int)
    (fss_cons (fs_for po rfl (fi_range1 rfl (T.free 5 rfl) (fa_cons (fe_var (pv 1)) fa_nil)) (fg_name (i := 3) keeps sc_begin_of.nd rfl (by first | exact .inl rfl | exact .inr rfl))
      (fss_one (fs_set (i := 2) keeps sc_begin_of.nd rfl (by first | exact .inl rfl | exact .inr rfl) (fe_op op_addA os_add (FE.r (fe_meth PySem.F.slot_str_find PySem.F.type_str_find mt_find3 sm_find3 (fe_var (pv 0)) (fb_cons (FE.r (fe_str [10] (by decide +kernel) (by decide +kernel))) (fb_cons (FE.r (fe_var (pv 2))) fb_nil)))) (FE.r fe_int)))))
    (fss_one (fs_ret (fe_var (pv 2)))))))⟩)
abbrev N_end_of : List PySem.Str := ["text", "row", "place"]
theorem sc_end_of : FnScope ["text", "row", "place"] ["text", "row"] (defScope s_end_of) := ⟨rfl, rfl, rfl, by decide +kernel, rfl, by decide +kernel, by decide +kernel⟩
theorem B_end_of (T : TxX fa fn fx K mg) : FnB P w K mg base "end_of" 3 ["text", "row"] (spV K mg 2 p_end_of) := by
  have B_begin_of := B_begin_of (P := P) (w := w) (base := base) T
  exact T.t.fnbV 5 41 rfl rfl rfl rfl sc_end_of (fun _ _ _ _ _ _ us hl => match us, hl with | [_, _], _ => rfl) (fun f cdv A outer s H F0 E hr tk po => ⟨_, (fss_cons (fs_set (i := 2) keeps sc_end_of.nd rfl (by first | exact .inl rfl | exact .inr rfl) (fe_meth PySem.F.slot_str_find PySem.F.type_str_find mt_find3 sm_find3 (fe_var (pv 0)) (fb_cons (FE.r (fe_str [10] (by decide +kernel) (by decide +kernel))) (fb_cons (FE.r (fe_call (FnB.d B_begin_of) rfl rfl (hr.mono (by decide)) rfl tk (fa_cons (fe_var (pv 0)) (fa_cons (fe_var (pv 1)) fa_nil)) rfl (mCons_len (mCons_len mNil_len)))) fb_nil))))
    (fss_cons (fs_if (ft_cmp op_ltA os_lt (FE.r (fe_var (pv 2))) (FE.r fe_int) (nomark _))
      (fss_one (fs_ret (fe_callB call_lenV cs_len rfl (T.free 0 rfl) (by decide +kernel) (fb_cons (FE.r (fe_var (pv 0))) fb_nil))))
      fss_nil)
    (fss_one (fs_ret (fe_var (pv 2))))))⟩)
abbrev N_place_of : List PySem.Str := ["text", "row", "column"]
theorem sc_place_of : FnScope ["text", "row", "column"] ["text", "row", "column"] (defScope s_place_of) := ⟨rfl, rfl, rfl, by decide +kernel, rfl, by decide +kernel, by decide +kernel⟩
theorem B_place_of (T : TxX fa fn fx K mg) : FnB P w K mg base "place_of" 4 ["text", "row", "column"] (spV K mg 3 p_place_of) := by
  have B_begin_of := B_begin_of (P := P) (w := w) (base := base) T
  have B_end_of := B_end_of (P := P) (w := w) (base := base) T
  exact T.t.fnbV 6 42 rfl rfl rfl rfl sc_place_of (fun _ _ _ _ _ _ us hl => match us, hl with | [_, _, _], _ => rfl) (fun f cdv A outer s H F0 E hr tk po => ⟨_, (fss_one (fs_ret (fe_callB (call_min2' rfl) cs_min2 rfl (T.free 6 rfl) (by decide +kernel) (fb_cons (FE.r (fe_op op_addA os_add (FE.r (fe_call (FnB.d B_begin_of) rfl rfl (hr.mono (by decide)) rfl tk (fa_cons (fe_var (pv 0)) (fa_cons (fe_var (pv 1)) fa_nil)) rfl (mCons_len (mCons_len mNil_len)))) (FE.r (fe_var (pv 2))))) (fb_cons (FE.r (fe_call (FnB.d B_end_of) rfl rfl (hr.mono (by decide)) rfl tk (fa_cons (fe_var (pv 0)) (fa_cons (fe_var (pv 1)) fa_nil)) rfl (mCons_len (mCons_len mNil_len)))) fb_nil)))))⟩)
abbrev N_has_word_sign : List PySem.Str := ["text", "place"]
theorem sc_has_word_sign : FnScope ["text", "place"] ["text", "place"] (defScope s_has_word_sign) := ⟨rfl, rfl, rfl, by decide +kernel, rfl, by decide +kernel, by decide +kernel⟩
theorem B_has_word_sign (T : TxX fa fn fx K mg) : FnB P w K mg base "has_word_sign" 1 ["text", "place"] (spV K mg 2 p_has_word_sign) := by
  exact T.t.fnbV 7 43 rfl rfl rfl rfl sc_has_word_sign (fun _ _ _ _ _ _ us hl => match us, hl with | [_, _], _ => rfl) (fun f cdv A outer s H F0 E hr tk po => ⟨_, (fss_one (fs_ret (fe_and (fe_chain op_leA os_le op_ltA os_lt (FE.r fe_int) (FE.r (fe_var (pv 1))) (FE.r (fe_callB call_lenV cs_len rfl (T.free 0 rfl) (by decide +kernel) (fb_cons (FE.r (fe_var (pv 0))) fb_nil)))) (fe_one (fe_cmpo op_inA os_in (FE.r (fe_ix ix_seq os_ix (FE.r (fe_var (pv 0))) (FE.r (fe_var (pv 1))) (fun _ _ => rfl))) (FE.r (fe_gstr (T.str 7 rfl) ks_76658d rfl (by decide +kernel) (by decide +kernel))) rfl)))))⟩)
abbrev N_begins : List PySem.Str := ["text", "place"]
theorem sc_begins : FnScope ["text", "place"] ["text", "place"] (defScope s_begins) := ⟨rfl, rfl, rfl, by decide +kernel, rfl, by decide +kernel, by decide +kernel⟩
theorem B_begins (T : TxX fa fn fx K mg) : FnB P w K mg base "begins" 2 ["text", "place"] (spV K mg 2 p_begins) := by
  have B_has_word_sign := B_has_word_sign (P := P) (w := w) (base := base) T
  exact T.t.fnbV 8 44 rfl rfl rfl rfl sc_begins (fun _ _ _ _ _ _ us hl => match us, hl with | [_, _], _ => rfl) (fun f cdv A outer s H F0 E hr tk po => ⟨_, (fss_one (fs_ret (fe_and (fe_call (FnB.d B_has_word_sign) rfl rfl (hr.mono (by decide)) rfl tk (fa_cons (fe_var (pv 0)) (fa_cons (fe_var (pv 1)) fa_nil)) rfl (mCons_len (mCons_len mNil_len))) (fe_one (fe_not (fe_call (FnB.d B_has_word_sign) rfl rfl (hr.mono (by decide)) rfl tk (fa_cons (fe_var (pv 0)) (fa_cons (fe_op op_sub os_sub (FE.r (fe_var (pv 1))) (FE.r fe_int)) fa_nil)) rfl (mCons_len (mCons_len mNil_len))))))))⟩)
abbrev N_ends : List PySem.Str := ["text", "place"]
theorem sc_ends : FnScope ["text", "place"] ["text", "place"] (defScope s_ends) := ⟨rfl, rfl, rfl, by decide +kernel, rfl, by decide +kernel, by decide +kernel⟩
theorem B_ends (T : TxX fa fn fx K mg) : FnB P w K mg base "ends" 2 ["text", "place"] (spV K mg 2 p_ends) := by
  have B_has_word_sign := B_has_word_sign (P := P) (w := w) (base := base) T
  exact T.t.fnbV 9 45 rfl rfl rfl rfl sc_ends (fun _ _ _ _ _ _ us hl => match us, hl with | [_, _], _ => rfl) (fun f cdv A outer s H F0 E hr tk po => ⟨_, (fss_one (fs_ret (fe_and (fe_call (FnB.d B_has_word_sign) rfl rfl (hr.mono (by decide)) rfl tk (fa_cons (fe_var (pv 0)) (fa_cons (fe_op op_sub os_sub (FE.r (fe_var (pv 1))) (FE.r fe_int)) fa_nil)) rfl (mCons_len (mCons_len mNil_len))) (fe_one (fe_not (fe_call (FnB.d B_has_word_sign) rfl rfl (hr.mono (by decide)) rfl tk (fa_cons (fe_var (pv 0)) (fa_cons (fe_var (pv 1)) fa_nil)) rfl (mCons_len (mCons_len mNil_len))))))))⟩)
abbrev N_met_at : List PySem.Str := ["text", "walk", "bracket", "other", "deep", "at"]
theorem sc_met_at : FnScope ["text", "walk", "bracket", "other", "deep", "at"] ["text", "walk", "bracket", "other"] (defScope s_met_at) := ⟨rfl, rfl, rfl, by decide +kernel, rfl, by decide +kernel, by decide +kernel⟩
theorem B_met_at (T : TxX fa fn fx K mg) : FnB P w K mg base "met_at" 1 ["text", "walk", "bracket", "other"] (spV K mg 4 p_met_at) := by
  exact T.t.fnbV 10 46 rfl rfl rfl rfl sc_met_at (fun _ _ _ _ _ _ us hl => match us, hl with | [_, _, _, _], _ => rfl) (fun f cdv A outer s H F0 E hr tk po => ⟨_, (fss_cons (fs_set (i := 4) keeps sc_met_at.nd rfl (by first | exact .inl rfl | exact .inr rfl) fe_int)
    (fss_cons (fs_for po rfl (fi_any rfl (fe_var (pv 1))) (fg_name (i := 5) keeps sc_met_at.nd rfl (by first | exact .inl rfl | exact .inr rfl))
      (fss_cons (fs_if (ft_cmp (op_eqD (hu64 hr)) os_eq (FE.r (fe_ix ix_seq os_ix (FE.r (fe_var (pv 0))) (FE.r (fe_var (pv 5))) (fun _ _ => rfl))) (FE.r (fe_var (pv 2))) (nomark _))
        (fss_one (fs_set (i := 4) keeps sc_met_at.nd rfl (by first | exact .inl rfl | exact .inr rfl) (fe_op op_addA os_add (FE.r (fe_var (pv 4))) (FE.r fe_int))))
        fss_nil)
      (fss_cons (fs_if (ft_cmp (op_eqD (hu64 hr)) os_eq (FE.r (fe_ix ix_seq os_ix (FE.r (fe_var (pv 0))) (FE.r (fe_var (pv 5))) (fun _ _ => rfl))) (FE.r (fe_var (pv 3))) (nomark _))
        (fss_one (fs_set (i := 4) keeps sc_met_at.nd rfl (by first | exact .inl rfl | exact .inr rfl) (fe_op op_sub os_sub (FE.r (fe_var (pv 4))) (FE.r fe_int))))
        fss_nil)
      (fss_one (fs_if (ft_cmp (op_eqD (hu64 hr)) os_eq (FE.r (fe_var (pv 4))) (FE.r fe_int) (nomark _))
        (fss_one (fs_ret (fe_var (pv 5))))
        fss_nil)))))
    (fss_one (fs_ret fe_non))))⟩)
abbrev N_partner : List PySem.Str := ["text", "place", "sign", "walk"]
theorem sc_partner : FnScope ["text", "place", "sign", "walk"] ["text", "place"] (defScope s_partner) := ⟨rfl, rfl, rfl, by decide +kernel, rfl, by decide +kernel, by decide +kernel⟩
theorem B_partner (T : TxX fa fn fx K mg) : FnB P w K mg base "partner" 2 ["text", "place"] (spV K mg 2 p_partner) := by
  have B_met_at := B_met_at (P := P) (w := w) (base := base) T
  exact T.t.fnbV 11 47 rfl rfl rfl rfl sc_partner (fun _ _ _ _ _ _ us hl => match us, hl with | [_, _], _ => rfl) (fun f cdv A outer s H F0 E hr tk po => ⟨_, (fss_cons (fs_if (ft_cmp op_geA os_ge (FE.r (fe_var (pv 1))) (FE.r (fe_callB call_lenV cs_len rfl (T.free 0 rfl) (by decide +kernel) (fb_cons (FE.r (fe_var (pv 0))) fb_nil))) (nomark _))
      (fss_one (fs_ret fe_non))
      fss_nil)
    (fss_cons (fs_set (i := 2) keeps sc_partner.nd rfl (by first | exact .inl rfl | exact .inr rfl) (fe_ix ix_seq os_ix (FE.r (fe_var (pv 0))) (FE.r (fe_var (pv 1))) (fun _ _ => rfl)))
    (fss_cons (fs_if (ft_cmp op_inA os_in (FE.r (fe_var (pv 2))) (FE.r (fe_gstr (T.str 8 rfl) [40, 91, 123] rfl (by decide +kernel) (by decide +kernel))) rfl)
      (fss_cons (fs_set (i := 3) keeps sc_partner.nd rfl (by first | exact .inl rfl | exact .inr rfl) (FL.e (fl_lrg2 rfl rfl (T.free 9 rfl) rfl (T.free 5 rfl) (fe_var (pv 1)) (fe_callB call_lenV cs_len rfl (T.free 0 rfl) (by decide +kernel) (fb_cons (FE.r (fe_var (pv 0))) fb_nil)))))
      (fss_one (fs_ret (fe_call (FnB.d B_met_at) rfl rfl (hr.mono (by decide)) rfl tk (fa_cons (fe_var (pv 0)) (fa_cons (fe_var (pv 3)) (fa_cons (fe_var (pv 2)) (fa_cons (fe_ix ix_seq os_ix (FE.r (fe_gstr (T.str 10 rfl) [41, 93, 125] rfl (by decide +kernel) (by decide +kernel))) (FE.r (fe_meth PySem.F.slot_str_index PySem.F.type_str_index (mt_sindex rfl) sm_sindex (fe_gstr (T.str 8 rfl) [40, 91, 123] rfl (by decide +kernel) (by decide +kernel)) (fb_cons (FE.r (fe_var (pv 2))) fb_nil))) (fun _ _ => rfl)) fa_nil)))) rfl (mCons_len (mCons_len (mCons_len (mCons_len mNil_len))))))))
      fss_nil)
    (fss_cons (fs_if (ft_cmp op_inA os_in (FE.r (fe_var (pv 2))) (FE.r (fe_gstr (T.str 10 rfl) [41, 93, 125] rfl (by decide +kernel) (by decide +kernel))) rfl)
      (fss_cons (fs_set (i := 3) keeps sc_partner.nd rfl (by first | exact .inl rfl | exact .inr rfl) (FL.e (fl_lrg3 rfl rfl (T.free 9 rfl) rfl (T.free 5 rfl) (fe_var (pv 1)) (fe_neg fe_int) (fe_neg fe_int))))
      (fss_one (fs_ret (fe_call (FnB.d B_met_at) rfl rfl (hr.mono (by decide)) rfl tk (fa_cons (fe_var (pv 0)) (fa_cons (fe_var (pv 3)) (fa_cons (fe_var (pv 2)) (fa_cons (fe_ix ix_seq os_ix (FE.r (fe_gstr (T.str 8 rfl) [40, 91, 123] rfl (by decide +kernel) (by decide +kernel))) (FE.r (fe_meth PySem.F.slot_str_index PySem.F.type_str_index (mt_sindex rfl) sm_sindex (fe_gstr (T.str 10 rfl) [41, 93, 125] rfl (by decide +kernel) (by decide +kernel)) (fb_cons (FE.r (fe_var (pv 2))) fb_nil))) (fun _ _ => rfl)) fa_nil)))) rfl (mCons_len (mCons_len (mCons_len (mCons_len mNil_len))))))))
      fss_nil)
    (fss_one (fs_ret fe_non))))))⟩)
abbrev N_Move__step : List PySem.Str := ["self", "text", "place"]
theorem sc_Move__step : FnScope ["self", "text", "place"] ["self", "text", "place"] (defScope s_Move__step) := ⟨rfl, rfl, rfl, by decide +kernel, rfl, by decide +kernel, by decide +kernel⟩
theorem BM_RowNumber_step (T : TxX fa fn fx K mg) : MB P w K mg base "RowNumber" "step" 1 3 (spV K mg 3 p_Move__step) := by
  exact T.mbV 25 26 48 49 rfl rfl rfl rfl rfl rfl sc_Move__step (fun _ _ _ _ _ _ us hl => match us, hl with | [_, _, _], _ => rfl) (fun f cdv A outer s H F0 E hr tk po => ⟨_, (fss_one (fs_ret fe_non))⟩)
abbrev N_Left__step : List PySem.Str := ["self", "text", "place"]
theorem sc_Left__step : FnScope ["self", "text", "place"] ["self", "text", "place"] (defScope s_Left__step) := ⟨rfl, rfl, rfl, by decide +kernel, rfl, by decide +kernel, by decide +kernel⟩
theorem BM_Left_step (T : TxX fa fn fx K mg) : MB P w K mg base "Left" "step" 3 3 (spV K mg 3 p_Left__step) := by
  have B_column_of := B_column_of (P := P) (w := w) (base := base) T
  exact T.mbV 26 20 50 51 rfl rfl rfl rfl rfl rfl sc_Left__step (fun _ _ _ _ _ _ us hl => match us, hl with | [_, _, _], _ => rfl) (fun f cdv A outer s H F0 E hr tk po => ⟨_, (fss_cons (fs_if (ft_cmp (op_eqD (hu64 hr)) os_eq (FE.r (fe_call (FnB.d B_column_of) rfl rfl (hr.mono (by decide)) rfl tk (fa_cons (fe_var (pv 1)) (fa_cons (fe_var (pv 2)) fa_nil)) rfl (mCons_len (mCons_len mNil_len)))) (FE.r fe_int) (nomark _))
      (fss_one (fs_ret fe_non))
      fss_nil)
    (fss_one (fs_ret (fe_op op_sub os_sub (FE.r (fe_var (pv 2))) (FE.r fe_int)))))⟩)
abbrev N_Right__step : List PySem.Str := ["self", "text", "place"]
theorem sc_Right__step : FnScope ["self", "text", "place"] ["self", "text", "place"] (defScope s_Right__step) := ⟨rfl, rfl, rfl, by decide +kernel, rfl, by decide +kernel, by decide +kernel⟩
theorem BM_Right_step (T : TxX fa fn fx K mg) : MB P w K mg base "Right" "step" 4 3 (spV K mg 3 p_Right__step) := by
  have B_end_of := B_end_of (P := P) (w := w) (base := base) T
  have B_row_of := B_row_of (P := P) (w := w) (base := base) T
  exact T.mbV 27 21 52 53 rfl rfl rfl rfl rfl rfl sc_Right__step (fun _ _ _ _ _ _ us hl => match us, hl with | [_, _, _], _ => rfl) (fun f cdv A outer s H F0 E hr tk po => ⟨_, (fss_cons (fs_if (ft_cmp (op_eqD (hu64 hr)) os_eq (FE.r (fe_var (pv 2))) (FE.r (fe_call (FnB.d B_end_of) rfl rfl (hr.mono (by decide)) rfl tk (fa_cons (fe_var (pv 1)) (fa_cons (fe_call (FnB.d B_row_of) rfl rfl (hr.mono (by decide)) rfl tk (fa_cons (fe_var (pv 1)) (fa_cons (fe_var (pv 2)) fa_nil)) rfl (mCons_len (mCons_len mNil_len))) fa_nil)) rfl (mCons_len (mCons_len mNil_len)))) (nomark _))
      (fss_one (fs_ret fe_non))
      fss_nil)
    (fss_one (fs_ret (fe_op op_addA os_add (FE.r (fe_var (pv 2))) (FE.r fe_int)))))⟩)
abbrev N_Down__step : List PySem.Str := ["self", "text", "place", "row"]
theorem sc_Down__step : FnScope ["self", "text", "place", "row"] ["self", "text", "place"] (defScope s_Down__step) := ⟨rfl, rfl, rfl, by decide +kernel, rfl, by decide +kernel, by decide +kernel⟩
theorem BM_Down_step (T : TxX fa fn fx K mg) : MB P w K mg base "Down" "step" 5 3 (spV K mg 3 p_Down__step) := by
  have B_column_of := B_column_of (P := P) (w := w) (base := base) T
  have B_place_of := B_place_of (P := P) (w := w) (base := base) T
  have B_row_count := B_row_count (P := P) (w := w) (base := base) T
  have B_row_of := B_row_of (P := P) (w := w) (base := base) T
  exact T.mbV 28 22 54 55 rfl rfl rfl rfl rfl rfl sc_Down__step (fun _ _ _ _ _ _ us hl => match us, hl with | [_, _, _], _ => rfl) (fun f cdv A outer s H F0 E hr tk po => ⟨_, (fss_cons (fs_set (i := 3) keeps sc_Down__step.nd rfl (by first | exact .inl rfl | exact .inr rfl) (fe_op op_addA os_add (FE.r (fe_call (FnB.d B_row_of) rfl rfl (hr.mono (by decide)) rfl tk (fa_cons (fe_var (pv 1)) (fa_cons (fe_var (pv 2)) fa_nil)) rfl (mCons_len (mCons_len mNil_len)))) (FE.r fe_int)))
    (fss_cons (fs_if (ft_cmp (op_eqD (hu64 hr)) os_eq (FE.r (fe_var (pv 3))) (FE.r (fe_call (FnB.d B_row_count) rfl rfl (hr.mono (by decide)) rfl tk (fa_cons (fe_var (pv 1)) fa_nil) rfl (mCons_len mNil_len))) (nomark _))
      (fss_one (fs_ret fe_non))
      fss_nil)
    (fss_one (fs_ret (fe_call (FnB.d B_place_of) rfl rfl (hr.mono (by decide)) rfl tk (fa_cons (fe_var (pv 1)) (fa_cons (fe_var (pv 3)) (fa_cons (fe_call (FnB.d B_column_of) rfl rfl (hr.mono (by decide)) rfl tk (fa_cons (fe_var (pv 1)) (fa_cons (fe_var (pv 2)) fa_nil)) rfl (mCons_len (mCons_len mNil_len))) fa_nil))) rfl (mCons_len (mCons_len (mCons_len mNil_len))))))))⟩)
abbrev N_Up__step : List PySem.Str := ["self", "text", "place", "row"]
theorem sc_Up__step : FnScope ["self", "text", "place", "row"] ["self", "text", "place"] (defScope s_Up__step) := ⟨rfl, rfl, rfl, by decide +kernel, rfl, by decide +kernel, by decide +kernel⟩
theorem BM_Up_step (T : TxX fa fn fx K mg) : MB P w K mg base "Up" "step" 5 3 (spV K mg 3 p_Up__step) := by
  have B_column_of := B_column_of (P := P) (w := w) (base := base) T
  have B_place_of := B_place_of (P := P) (w := w) (base := base) T
  have B_row_of := B_row_of (P := P) (w := w) (base := base) T
  exact T.mbV 29 23 56 57 rfl rfl rfl rfl rfl rfl sc_Up__step (fun _ _ _ _ _ _ us hl => match us, hl with | [_, _, _], _ => rfl) (fun f cdv A outer s H F0 E hr tk po => ⟨_, (fss_cons (fs_set (i := 3) keeps sc_Up__step.nd rfl (by first | exact .inl rfl | exact .inr rfl) (fe_op op_sub os_sub (FE.r (fe_call (FnB.d B_row_of) rfl rfl (hr.mono (by decide)) rfl tk (fa_cons (fe_var (pv 1)) (fa_cons (fe_var (pv 2)) fa_nil)) rfl (mCons_len (mCons_len mNil_len)))) (FE.r fe_int)))
    (fss_cons (fs_if (ft_cmp op_ltA os_lt (FE.r (fe_var (pv 3))) (FE.r fe_int) (nomark _))
      (fss_one (fs_ret fe_non))
      fss_nil)
    (fss_one (fs_ret (fe_call (FnB.d B_place_of) rfl rfl (hr.mono (by decide)) rfl tk (fa_cons (fe_var (pv 1)) (fa_cons (fe_var (pv 3)) (fa_cons (fe_call (FnB.d B_column_of) rfl rfl (hr.mono (by decide)) rfl tk (fa_cons (fe_var (pv 1)) (fa_cons (fe_var (pv 2)) fa_nil)) rfl (mCons_len (mCons_len mNil_len))) fa_nil))) rfl (mCons_len (mCons_len (mCons_len mNil_len))))))))⟩)
abbrev N_RowBegin__step : List PySem.Str := ["self", "text", "place"]
theorem sc_RowBegin__step : FnScope ["self", "text", "place"] ["self", "text", "place"] (defScope s_RowBegin__step) := ⟨rfl, rfl, rfl, by decide +kernel, rfl, by decide +kernel, by decide +kernel⟩
theorem BM_RowBegin_step (T : TxX fa fn fx K mg) : MB P w K mg base "RowBegin" "step" 3 3 (spV K mg 3 p_RowBegin__step) := by
  have B_begin_of := B_begin_of (P := P) (w := w) (base := base) T
  have B_row_of := B_row_of (P := P) (w := w) (base := base) T
  exact T.mbV 30 24 58 59 rfl rfl rfl rfl rfl rfl sc_RowBegin__step (fun _ _ _ _ _ _ us hl => match us, hl with | [_, _, _], _ => rfl) (fun f cdv A outer s H F0 E hr tk po => ⟨_, (fss_one (fs_ret (fe_call (FnB.d B_begin_of) rfl rfl (hr.mono (by decide)) rfl tk (fa_cons (fe_var (pv 1)) (fa_cons (fe_call (FnB.d B_row_of) rfl rfl (hr.mono (by decide)) rfl tk (fa_cons (fe_var (pv 1)) (fa_cons (fe_var (pv 2)) fa_nil)) rfl (mCons_len (mCons_len mNil_len))) fa_nil)) rfl (mCons_len (mCons_len mNil_len)))))⟩)
abbrev N_RowEnd__step : List PySem.Str := ["self", "text", "place"]
theorem sc_RowEnd__step : FnScope ["self", "text", "place"] ["self", "text", "place"] (defScope s_RowEnd__step) := ⟨rfl, rfl, rfl, by decide +kernel, rfl, by decide +kernel, by decide +kernel⟩
theorem BM_RowEnd_step (T : TxX fa fn fx K mg) : MB P w K mg base "RowEnd" "step" 4 3 (spV K mg 3 p_RowEnd__step) := by
  have B_end_of := B_end_of (P := P) (w := w) (base := base) T
  have B_row_of := B_row_of (P := P) (w := w) (base := base) T
  exact T.mbV 31 25 60 61 rfl rfl rfl rfl rfl rfl sc_RowEnd__step (fun _ _ _ _ _ _ us hl => match us, hl with | [_, _, _], _ => rfl) (fun f cdv A outer s H F0 E hr tk po => ⟨_, (fss_one (fs_ret (fe_call (FnB.d B_end_of) rfl rfl (hr.mono (by decide)) rfl tk (fa_cons (fe_var (pv 1)) (fa_cons (fe_call (FnB.d B_row_of) rfl rfl (hr.mono (by decide)) rfl tk (fa_cons (fe_var (pv 1)) (fa_cons (fe_var (pv 2)) fa_nil)) rfl (mCons_len (mCons_len mNil_len))) fa_nil)) rfl (mCons_len (mCons_len mNil_len)))))⟩)
abbrev N_WordOn__step : List PySem.Str := ["self", "text", "place", "at"]
theorem sc_WordOn__step : FnScope ["self", "text", "place", "at"] ["self", "text", "place"] (defScope s_WordOn__step) := ⟨rfl, rfl, rfl, by decide +kernel, rfl, by decide +kernel, by decide +kernel⟩
theorem BM_WordOn_step (T : TxX fa fn fx K mg) : MB P w K mg base "WordOn" "step" 3 3 (spV K mg 3 p_WordOn__step) := by
  have B_begins := B_begins (P := P) (w := w) (base := base) T
  exact T.mbV 32 27 62 63 rfl rfl rfl rfl rfl rfl sc_WordOn__step (fun _ _ _ _ _ _ us hl => match us, hl with | [_, _, _], _ => rfl) (fun f cdv A outer s H F0 E hr tk po => ⟨_, (fss_cons (fs_for po rfl (fi_range2 rfl (T.free 5 rfl) (fa_cons (fe_op op_addA os_add (FE.r (fe_var (pv 2))) (FE.r fe_int)) (fa_cons (fe_callB call_lenV cs_len rfl (T.free 0 rfl) (by decide +kernel) (fb_cons (FE.r (fe_var (pv 1))) fb_nil)) fa_nil))) (fg_name (i := 3) keeps sc_WordOn__step.nd rfl (by first | exact .inl rfl | exact .inr rfl))
      (fss_one (fs_if (ft_val (fe_call (FnB.d B_begins) rfl rfl (hr.mono (by decide)) rfl tk (fa_cons (fe_var (pv 1)) (fa_cons (fe_var (pv 3)) fa_nil)) rfl (mCons_len (mCons_len mNil_len))))
        (fss_one (fs_ret (fe_var (pv 3))))
        fss_nil)))
    (fss_one (fs_ret fe_non)))⟩)
abbrev N_WordBack__step : List PySem.Str := ["self", "text", "place", "at"]
theorem sc_WordBack__step : FnScope ["self", "text", "place", "at"] ["self", "text", "place"] (defScope s_WordBack__step) := ⟨rfl, rfl, rfl, by decide +kernel, rfl, by decide +kernel, by decide +kernel⟩
theorem BM_WordBack_step (T : TxX fa fn fx K mg) : MB P w K mg base "WordBack" "step" 3 3 (spV K mg 3 p_WordBack__step) := by
  have B_begins := B_begins (P := P) (w := w) (base := base) T
  exact T.mbV 33 28 64 65 rfl rfl rfl rfl rfl rfl sc_WordBack__step (fun _ _ _ _ _ _ us hl => match us, hl with | [_, _, _], _ => rfl) (fun f cdv A outer s H F0 E hr tk po => ⟨_, (fss_cons (fs_for po rfl (fi_range3 rfl (T.free 5 rfl) (fa_cons (fe_op op_sub os_sub (FE.r (fe_var (pv 2))) (FE.r fe_int)) (fa_cons (fe_neg fe_int) (fa_cons (fe_neg fe_int) fa_nil)))) (fg_name (i := 3) keeps sc_WordBack__step.nd rfl (by first | exact .inl rfl | exact .inr rfl))
      (fss_one (fs_if (ft_val (fe_call (FnB.d B_begins) rfl rfl (hr.mono (by decide)) rfl tk (fa_cons (fe_var (pv 1)) (fa_cons (fe_var (pv 3)) fa_nil)) rfl (mCons_len (mCons_len mNil_len))))
        (fss_one (fs_ret (fe_var (pv 3))))
        fss_nil)))
    (fss_one (fs_ret fe_non)))⟩)
abbrev N_WordOut__step : List PySem.Str := ["self", "text", "place", "at"]
theorem sc_WordOut__step : FnScope ["self", "text", "place", "at"] ["self", "text", "place"] (defScope s_WordOut__step) := ⟨rfl, rfl, rfl, by decide +kernel, rfl, by decide +kernel, by decide +kernel⟩
theorem BM_WordOut_step (T : TxX fa fn fx K mg) : MB P w K mg base "WordOut" "step" 3 3 (spV K mg 3 p_WordOut__step) := by
  have B_ends := B_ends (P := P) (w := w) (base := base) T
  exact T.mbV 34 29 66 67 rfl rfl rfl rfl rfl rfl sc_WordOut__step (fun _ _ _ _ _ _ us hl => match us, hl with | [_, _, _], _ => rfl) (fun f cdv A outer s H F0 E hr tk po => ⟨_, (fss_cons (fs_for po rfl (fi_range2 rfl (T.free 5 rfl) (fa_cons (fe_op op_addA os_add (FE.r (fe_var (pv 2))) (FE.r fe_int)) (fa_cons (fe_op op_addA os_add (FE.r (fe_callB call_lenV cs_len rfl (T.free 0 rfl) (by decide +kernel) (fb_cons (FE.r (fe_var (pv 1))) fb_nil))) (FE.r fe_int)) fa_nil))) (fg_name (i := 3) keeps sc_WordOut__step.nd rfl (by first | exact .inl rfl | exact .inr rfl))
      (fss_one (fs_if (ft_val (fe_call (FnB.d B_ends) rfl rfl (hr.mono (by decide)) rfl tk (fa_cons (fe_var (pv 1)) (fa_cons (fe_var (pv 3)) fa_nil)) rfl (mCons_len (mCons_len mNil_len))))
        (fss_one (fs_ret (fe_var (pv 3))))
        fss_nil)))
    (fss_one (fs_ret fe_non)))⟩)
abbrev N_Find__step : List PySem.Str := ["self", "text", "place", "at"]
theorem sc_Find__step : FnScope ["self", "text", "place", "at"] ["self", "text", "place"] (defScope s_Find__step) := ⟨rfl, rfl, rfl, by decide +kernel, rfl, by decide +kernel, by decide +kernel⟩
theorem BM_Find_step (T : TxX fa fn fx K mg) : MB P w K mg base "Find" "step" 4 3 (spV K mg 3 p_Find__step) := by
  have B_end_of := B_end_of (P := P) (w := w) (base := base) T
  have B_row_of := B_row_of (P := P) (w := w) (base := base) T
  exact T.mbV 35 11 12 68 rfl rfl rfl rfl rfl rfl sc_Find__step (fun _ _ _ _ _ _ us hl => match us, hl with | [_, _, _], _ => rfl) (fun f cdv A outer s H F0 E hr tk po => ⟨_, (fss_cons (fs_set (i := 3) keeps sc_Find__step.nd rfl (by first | exact .inl rfl | exact .inr rfl) (fe_meth PySem.F.slot_str_find PySem.F.type_str_find mt_find4 sm_find4 (fe_var (pv 1)) (fb_cons (FE.r (fe_fld (L := ["Find"]) rfl rfl (fe_var (pv 0)) (List.forall_mem_cons.mpr ⟨⟨T.glo 11 rfl, T.cls 12 rfl, T.noat 13 rfl⟩, fun _ h => nomatch h⟩))) (fb_cons (FE.r (fe_op op_addA os_add (FE.r (fe_var (pv 2))) (FE.r fe_int))) (fb_cons (FE.r (fe_call (FnB.d B_end_of) rfl rfl (hr.mono (by decide)) rfl tk (fa_cons (fe_var (pv 1)) (fa_cons (fe_call (FnB.d B_row_of) rfl rfl (hr.mono (by decide)) rfl tk (fa_cons (fe_var (pv 1)) (fa_cons (fe_var (pv 2)) fa_nil)) rfl (mCons_len (mCons_len mNil_len))) fa_nil)) rfl (mCons_len (mCons_len mNil_len)))) fb_nil)))))
    (fss_cons (fs_if (ft_cmp op_ltA os_lt (FE.r (fe_var (pv 3))) (FE.r fe_int) (nomark _))
      (fss_one (fs_ret fe_non))
      fss_nil)
    (fss_one (fs_ret (fe_var (pv 3))))))⟩)
abbrev N_Trace__step : List PySem.Str := ["self", "text", "place", "at"]
theorem sc_Trace__step : FnScope ["self", "text", "place", "at"] ["self", "text", "place"] (defScope s_Trace__step) := ⟨rfl, rfl, rfl, by decide +kernel, rfl, by decide +kernel, by decide +kernel⟩
theorem BM_Trace_step (T : TxX fa fn fx K mg) : MB P w K mg base "Trace" "step" 3 3 (spV K mg 3 p_Trace__step) := by
  have B_begin_of := B_begin_of (P := P) (w := w) (base := base) T
  have B_row_of := B_row_of (P := P) (w := w) (base := base) T
  exact T.mbV 36 14 15 69 rfl rfl rfl rfl rfl rfl sc_Trace__step (fun _ _ _ _ _ _ us hl => match us, hl with | [_, _, _], _ => rfl) (fun f cdv A outer s H F0 E hr tk po => ⟨_, (fss_cons (fs_set (i := 3) keeps sc_Trace__step.nd rfl (by first | exact .inl rfl | exact .inr rfl) (fe_meth PySem.F.slot_str_rfind PySem.F.type_str_rfind mt_rfind4 sm_rfind4 (fe_var (pv 1)) (fb_cons (FE.r (fe_fld (L := ["Trace"]) rfl rfl (fe_var (pv 0)) (List.forall_mem_cons.mpr ⟨⟨T.glo 14 rfl, T.cls 15 rfl, T.noat 16 rfl⟩, fun _ h => nomatch h⟩))) (fb_cons (FE.r (fe_call (FnB.d B_begin_of) rfl rfl (hr.mono (by decide)) rfl tk (fa_cons (fe_var (pv 1)) (fa_cons (fe_call (FnB.d B_row_of) rfl rfl (hr.mono (by decide)) rfl tk (fa_cons (fe_var (pv 1)) (fa_cons (fe_var (pv 2)) fa_nil)) rfl (mCons_len (mCons_len mNil_len))) fa_nil)) rfl (mCons_len (mCons_len mNil_len)))) (fb_cons (FE.r (fe_var (pv 2))) fb_nil)))))
    (fss_cons (fs_if (ft_cmp op_ltA os_lt (FE.r (fe_var (pv 3))) (FE.r fe_int) (nomark _))
      (fss_one (fs_ret fe_non))
      fss_nil)
    (fss_one (fs_ret (fe_var (pv 3))))))⟩)
abbrev N_TextEnd__step : List PySem.Str := ["self", "text", "place"]
theorem sc_TextEnd__step : FnScope ["self", "text", "place"] ["self", "text", "place"] (defScope s_TextEnd__step) := ⟨rfl, rfl, rfl, by decide +kernel, rfl, by decide +kernel, by decide +kernel⟩
theorem BM_TextEnd_step (T : TxX fa fn fx K mg) : MB P w K mg base "TextEnd" "step" 1 3 (spV K mg 3 p_TextEnd__step) := by
  exact T.mbV 37 30 70 71 rfl rfl rfl rfl rfl rfl sc_TextEnd__step (fun _ _ _ _ _ _ us hl => match us, hl with | [_, _, _], _ => rfl) (fun f cdv A outer s H F0 E hr tk po => ⟨_, (fss_one (fs_ret (fe_callB call_lenV cs_len rfl (T.free 0 rfl) (by decide +kernel) (fb_cons (FE.r (fe_var (pv 1))) fb_nil))))⟩)
abbrev N_Across__step : List PySem.Str := ["self", "text", "place", "there"]
theorem sc_Across__step : FnScope ["self", "text", "place", "there"] ["self", "text", "place"] (defScope s_Across__step) := ⟨rfl, rfl, rfl, by decide +kernel, rfl, by decide +kernel, by decide +kernel⟩
theorem BM_Across_step (T : TxX fa fn fx K mg) : MB P w K mg base "Across" "step" 3 3 (spV K mg 3 p_Across__step) := by
  have B_partner := B_partner (P := P) (w := w) (base := base) T
  exact T.mbV 38 31 72 73 rfl rfl rfl rfl rfl rfl sc_Across__step (fun _ _ _ _ _ _ us hl => match us, hl with | [_, _, _], _ => rfl) (fun f cdv A outer s H F0 E hr tk po => ⟨_, (fss_cons (fs_if (FW.t (fw_and (ft_cmp op_ltA os_lt (FE.r (fe_var (pv 2))) (FE.r (fe_callB call_lenV cs_len rfl (T.free 0 rfl) (by decide +kernel) (fb_cons (FE.r (fe_var (pv 1))) fb_nil))) (nomark _)) (fw_and1 (ft_cmp op_inA os_in (FE.r (fe_ix ix_seq os_ix (FE.r (fe_var (pv 1))) (FE.r (fe_var (pv 2))) (fun _ _ => rfl))) (FE.r (fe_gstr (T.str 8 rfl) [40, 91, 123] rfl (by decide +kernel) (by decide +kernel))) rfl))))
      (fss_cons (fs_set (i := 3) keeps sc_Across__step.nd rfl (by first | exact .inl rfl | exact .inr rfl) (fe_call (FnB.d B_partner) rfl rfl (hr.mono (by decide)) rfl tk (fa_cons (fe_var (pv 1)) (fa_cons (fe_var (pv 2)) fa_nil)) rfl (mCons_len (mCons_len mNil_len))))
      (fss_cons (fs_if (ft_cmp op_isN os_isN (FE.r (fe_var (pv 3))) (FE.r fe_non) (nomark _))
        (fss_one (fs_ret fe_non))
        fss_nil)
      (fss_one (fs_ret (fe_op op_addA os_add (FE.r (fe_var (pv 3))) (FE.r fe_int))))))
      fss_nil)
    (fss_cons (fs_if (FW.t (fw_and (ft_cmp op_gtA os_gt (FE.r (fe_var (pv 2))) (FE.r fe_int) (nomark _)) (fw_and1 (ft_cmp op_inA os_in (FE.r (fe_ix ix_seq os_ix (FE.r (fe_var (pv 1))) (FE.r (fe_op op_sub os_sub (FE.r (fe_var (pv 2))) (FE.r fe_int))) (fun _ _ => rfl))) (FE.r (fe_gstr (T.str 10 rfl) [41, 93, 125] rfl (by decide +kernel) (by decide +kernel))) rfl))))
      (fss_one (fs_ret (fe_call (FnB.d B_partner) rfl rfl (hr.mono (by decide)) rfl tk (fa_cons (fe_var (pv 1)) (fa_cons (fe_op op_sub os_sub (FE.r (fe_var (pv 2))) (FE.r fe_int)) fa_nil)) rfl (mCons_len (mCons_len mNil_len)))))
      fss_nil)
    (fss_one (fs_ret fe_non))))⟩)
abbrev N_Mark__step : List PySem.Str := ["self", "text", "place"]
theorem sc_Mark__step : FnScope ["self", "text", "place"] ["self", "text", "place"] (defScope s_Mark__step) := ⟨rfl, rfl, rfl, by decide +kernel, rfl, by decide +kernel, by decide +kernel⟩
theorem BM_Mark_step (T : TxX fa fn fx K mg) : MB P w K mg base "Mark" "step" 1 3 (spV K mg 3 p_Mark__step) := by
  exact T.mbV 39 17 18 74 rfl rfl rfl rfl rfl rfl sc_Mark__step (fun _ _ _ _ _ _ us hl => match us, hl with | [_, _, _], _ => rfl) (fun f cdv A outer s H F0 E hr tk po => ⟨_, (fss_one (fs_ret (fe_fld (L := ["Mark"]) rfl rfl (fe_var (pv 0)) (List.forall_mem_cons.mpr ⟨⟨T.glo 17 rfl, T.cls 18 rfl, T.noat 19 rfl⟩, fun _ h => nomatch h⟩))))⟩)
theorem BT_step (T : TxX fa fn fx K mg) : ∀ p ∈ disp_step, MB P w K mg base p.1 "step" 5 3 (spV K mg 3 p.2) :=
  List.forall_mem_cons.mpr ⟨(BM_RowNumber_step T).mono (by decide), List.forall_mem_cons.mpr ⟨(BM_Left_step T).mono (by decide), List.forall_mem_cons.mpr ⟨(BM_Right_step T).mono (by decide), List.forall_mem_cons.mpr ⟨(BM_Down_step T).mono (by decide), List.forall_mem_cons.mpr ⟨(BM_Up_step T).mono (by decide), List.forall_mem_cons.mpr ⟨(BM_RowBegin_step T).mono (by decide), List.forall_mem_cons.mpr ⟨(BM_RowEnd_step T).mono (by decide), List.forall_mem_cons.mpr ⟨(BM_WordOn_step T).mono (by decide), List.forall_mem_cons.mpr ⟨(BM_WordBack_step T).mono (by decide), List.forall_mem_cons.mpr ⟨(BM_WordOut_step T).mono (by decide), List.forall_mem_cons.mpr ⟨(BM_Find_step T).mono (by decide), List.forall_mem_cons.mpr ⟨(BM_Trace_step T).mono (by decide), List.forall_mem_cons.mpr ⟨(BM_TextEnd_step T).mono (by decide), List.forall_mem_cons.mpr ⟨(BM_Across_step T).mono (by decide), List.forall_mem_cons.mpr ⟨(BM_Mark_step T).mono (by decide), fun _ h => nomatch h⟩⟩⟩⟩⟩⟩⟩⟩⟩⟩⟩⟩⟩⟩⟩
abbrev N_Move__made : List PySem.Str := ["self", "text", "place", "count", "turn"]
theorem sc_Move__made : FnScope ["self", "text", "place", "count", "turn"] ["self", "text", "place", "count"] (defScope s_Move__made) := ⟨rfl, rfl, rfl, by decide +kernel, rfl, by decide +kernel, by decide +kernel⟩
theorem BM_Left_made (T : TxX fa fn fx K mg) : MB P w K mg base "Left" "made" 6 4 (spV K mg 4 p_Move__made) := by
  exact T.mbV 40 20 50 75 rfl rfl rfl rfl rfl rfl sc_Move__made (fun _ _ _ _ _ _ us hl => match us, hl with | [_, _, _, _], _ => rfl) (fun f cdv A outer s H F0 E hr tk po => ⟨_, (fss_cons (fs_if (ft_cmp op_isN os_isN (FE.r (fe_var (pv 3))) (FE.r fe_non) (nomark _))
      (fss_one (fs_set (i := 3) keeps sc_Move__made.nd rfl (by first | exact .inl rfl | exact .inr rfl) fe_int))
      fss_nil)
    (fss_cons (fs_for po rfl (fi_range1 rfl (T.free 5 rfl) (fa_cons (fe_var (pv 3)) fa_nil)) (fg_name (i := 4) keeps sc_Move__made.nd rfl (by first | exact .inl rfl | exact .inr rfl))
      (fss_one (fs_if (ft_cmp op_notN os_notN (FE.r (fe_var (pv 2))) (FE.r fe_non) (nomark _))
        (fss_one (fs_set (i := 2) keeps sc_Move__made.nd rfl (by first | exact .inl rfl | exact .inr rfl) (fe_dsp (BT_step T) rfl rfl (hr.mono (by decide)) tk (fe_var (pv 0)) (fa_cons (fe_var (pv 1)) (fa_cons (fe_var (pv 2)) fa_nil)) rfl (mCons_len (mCons_len mNil_len)))))
        fss_nil)))
    (fss_one (fs_ret (fe_var (pv 2))))))⟩)
theorem BM_Right_made (T : TxX fa fn fx K mg) : MB P w K mg base "Right" "made" 6 4 (spV K mg 4 p_Move__made) := by
  exact T.mbV 41 21 52 76 rfl rfl rfl rfl rfl rfl sc_Move__made (fun _ _ _ _ _ _ us hl => match us, hl with | [_, _, _, _], _ => rfl) (fun f cdv A outer s H F0 E hr tk po => ⟨_, (fss_cons (fs_if (ft_cmp op_isN os_isN (FE.r (fe_var (pv 3))) (FE.r fe_non) (nomark _))
      (fss_one (fs_set (i := 3) keeps sc_Move__made.nd rfl (by first | exact .inl rfl | exact .inr rfl) fe_int))
      fss_nil)
    (fss_cons (fs_for po rfl (fi_range1 rfl (T.free 5 rfl) (fa_cons (fe_var (pv 3)) fa_nil)) (fg_name (i := 4) keeps sc_Move__made.nd rfl (by first | exact .inl rfl | exact .inr rfl))
      (fss_one (fs_if (ft_cmp op_notN os_notN (FE.r (fe_var (pv 2))) (FE.r fe_non) (nomark _))
        (fss_one (fs_set (i := 2) keeps sc_Move__made.nd rfl (by first | exact .inl rfl | exact .inr rfl) (fe_dsp (BT_step T) rfl rfl (hr.mono (by decide)) tk (fe_var (pv 0)) (fa_cons (fe_var (pv 1)) (fa_cons (fe_var (pv 2)) fa_nil)) rfl (mCons_len (mCons_len mNil_len)))))
        fss_nil)))
    (fss_one (fs_ret (fe_var (pv 2))))))⟩)
theorem BM_Down_made (T : TxX fa fn fx K mg) : MB P w K mg base "Down" "made" 6 4 (spV K mg 4 p_Move__made) := by
  exact T.mbV 42 22 54 77 rfl rfl rfl rfl rfl rfl sc_Move__made (fun _ _ _ _ _ _ us hl => match us, hl with | [_, _, _, _], _ => rfl) (fun f cdv A outer s H F0 E hr tk po => ⟨_, (fss_cons (fs_if (ft_cmp op_isN os_isN (FE.r (fe_var (pv 3))) (FE.r fe_non) (nomark _))
      (fss_one (fs_set (i := 3) keeps sc_Move__made.nd rfl (by first | exact .inl rfl | exact .inr rfl) fe_int))
      fss_nil)
    (fss_cons (fs_for po rfl (fi_range1 rfl (T.free 5 rfl) (fa_cons (fe_var (pv 3)) fa_nil)) (fg_name (i := 4) keeps sc_Move__made.nd rfl (by first | exact .inl rfl | exact .inr rfl))
      (fss_one (fs_if (ft_cmp op_notN os_notN (FE.r (fe_var (pv 2))) (FE.r fe_non) (nomark _))
        (fss_one (fs_set (i := 2) keeps sc_Move__made.nd rfl (by first | exact .inl rfl | exact .inr rfl) (fe_dsp (BT_step T) rfl rfl (hr.mono (by decide)) tk (fe_var (pv 0)) (fa_cons (fe_var (pv 1)) (fa_cons (fe_var (pv 2)) fa_nil)) rfl (mCons_len (mCons_len mNil_len)))))
        fss_nil)))
    (fss_one (fs_ret (fe_var (pv 2))))))⟩)
theorem BM_Up_made (T : TxX fa fn fx K mg) : MB P w K mg base "Up" "made" 6 4 (spV K mg 4 p_Move__made) := by
  exact T.mbV 43 23 56 78 rfl rfl rfl rfl rfl rfl sc_Move__made (fun _ _ _ _ _ _ us hl => match us, hl with | [_, _, _, _], _ => rfl) (fun f cdv A outer s H F0 E hr tk po => ⟨_, (fss_cons (fs_if (ft_cmp op_isN os_isN (FE.r (fe_var (pv 3))) (FE.r fe_non) (nomark _))
      (fss_one (fs_set (i := 3) keeps sc_Move__made.nd rfl (by first | exact .inl rfl | exact .inr rfl) fe_int))
      fss_nil)
    (fss_cons (fs_for po rfl (fi_range1 rfl (T.free 5 rfl) (fa_cons (fe_var (pv 3)) fa_nil)) (fg_name (i := 4) keeps sc_Move__made.nd rfl (by first | exact .inl rfl | exact .inr rfl))
      (fss_one (fs_if (ft_cmp op_notN os_notN (FE.r (fe_var (pv 2))) (FE.r fe_non) (nomark _))
        (fss_one (fs_set (i := 2) keeps sc_Move__made.nd rfl (by first | exact .inl rfl | exact .inr rfl) (fe_dsp (BT_step T) rfl rfl (hr.mono (by decide)) tk (fe_var (pv 0)) (fa_cons (fe_var (pv 1)) (fa_cons (fe_var (pv 2)) fa_nil)) rfl (mCons_len (mCons_len mNil_len)))))
        fss_nil)))
    (fss_one (fs_ret (fe_var (pv 2))))))⟩)
theorem BM_WordOn_made (T : TxX fa fn fx K mg) : MB P w K mg base "WordOn" "made" 6 4 (spV K mg 4 p_Move__made) := by
  exact T.mbV 44 27 62 79 rfl rfl rfl rfl rfl rfl sc_Move__made (fun _ _ _ _ _ _ us hl => match us, hl with | [_, _, _, _], _ => rfl) (fun f cdv A outer s H F0 E hr tk po => ⟨_, (fss_cons (fs_if (ft_cmp op_isN os_isN (FE.r (fe_var (pv 3))) (FE.r fe_non) (nomark _))
      (fss_one (fs_set (i := 3) keeps sc_Move__made.nd rfl (by first | exact .inl rfl | exact .inr rfl) fe_int))
      fss_nil)
    (fss_cons (fs_for po rfl (fi_range1 rfl (T.free 5 rfl) (fa_cons (fe_var (pv 3)) fa_nil)) (fg_name (i := 4) keeps sc_Move__made.nd rfl (by first | exact .inl rfl | exact .inr rfl))
      (fss_one (fs_if (ft_cmp op_notN os_notN (FE.r (fe_var (pv 2))) (FE.r fe_non) (nomark _))
        (fss_one (fs_set (i := 2) keeps sc_Move__made.nd rfl (by first | exact .inl rfl | exact .inr rfl) (fe_dsp (BT_step T) rfl rfl (hr.mono (by decide)) tk (fe_var (pv 0)) (fa_cons (fe_var (pv 1)) (fa_cons (fe_var (pv 2)) fa_nil)) rfl (mCons_len (mCons_len mNil_len)))))
        fss_nil)))
    (fss_one (fs_ret (fe_var (pv 2))))))⟩)
theorem BM_WordBack_made (T : TxX fa fn fx K mg) : MB P w K mg base "WordBack" "made" 6 4 (spV K mg 4 p_Move__made) := by
  exact T.mbV 45 28 64 80 rfl rfl rfl rfl rfl rfl sc_Move__made (fun _ _ _ _ _ _ us hl => match us, hl with | [_, _, _, _], _ => rfl) (fun f cdv A outer s H F0 E hr tk po => ⟨_, (fss_cons (fs_if (ft_cmp op_isN os_isN (FE.r (fe_var (pv 3))) (FE.r fe_non) (nomark _))
      (fss_one (fs_set (i := 3) keeps sc_Move__made.nd rfl (by first | exact .inl rfl | exact .inr rfl) fe_int))
      fss_nil)
    (fss_cons (fs_for po rfl (fi_range1 rfl (T.free 5 rfl) (fa_cons (fe_var (pv 3)) fa_nil)) (fg_name (i := 4) keeps sc_Move__made.nd rfl (by first | exact .inl rfl | exact .inr rfl))
      (fss_one (fs_if (ft_cmp op_notN os_notN (FE.r (fe_var (pv 2))) (FE.r fe_non) (nomark _))
        (fss_one (fs_set (i := 2) keeps sc_Move__made.nd rfl (by first | exact .inl rfl | exact .inr rfl) (fe_dsp (BT_step T) rfl rfl (hr.mono (by decide)) tk (fe_var (pv 0)) (fa_cons (fe_var (pv 1)) (fa_cons (fe_var (pv 2)) fa_nil)) rfl (mCons_len (mCons_len mNil_len)))))
        fss_nil)))
    (fss_one (fs_ret (fe_var (pv 2))))))⟩)
theorem BM_WordOut_made (T : TxX fa fn fx K mg) : MB P w K mg base "WordOut" "made" 6 4 (spV K mg 4 p_Move__made) := by
  exact T.mbV 46 29 66 81 rfl rfl rfl rfl rfl rfl sc_Move__made (fun _ _ _ _ _ _ us hl => match us, hl with | [_, _, _, _], _ => rfl) (fun f cdv A outer s H F0 E hr tk po => ⟨_, (fss_cons (fs_if (ft_cmp op_isN os_isN (FE.r (fe_var (pv 3))) (FE.r fe_non) (nomark _))
      (fss_one (fs_set (i := 3) keeps sc_Move__made.nd rfl (by first | exact .inl rfl | exact .inr rfl) fe_int))
      fss_nil)
    (fss_cons (fs_for po rfl (fi_range1 rfl (T.free 5 rfl) (fa_cons (fe_var (pv 3)) fa_nil)) (fg_name (i := 4) keeps sc_Move__made.nd rfl (by first | exact .inl rfl | exact .inr rfl))
      (fss_one (fs_if (ft_cmp op_notN os_notN (FE.r (fe_var (pv 2))) (FE.r fe_non) (nomark _))
        (fss_one (fs_set (i := 2) keeps sc_Move__made.nd rfl (by first | exact .inl rfl | exact .inr rfl) (fe_dsp (BT_step T) rfl rfl (hr.mono (by decide)) tk (fe_var (pv 0)) (fa_cons (fe_var (pv 1)) (fa_cons (fe_var (pv 2)) fa_nil)) rfl (mCons_len (mCons_len mNil_len)))))
        fss_nil)))
    (fss_one (fs_ret (fe_var (pv 2))))))⟩)
theorem BM_Find_made (T : TxX fa fn fx K mg) : MB P w K mg base "Find" "made" 6 4 (spV K mg 4 p_Move__made) := by
  exact T.mbV 47 11 12 82 rfl rfl rfl rfl rfl rfl sc_Move__made (fun _ _ _ _ _ _ us hl => match us, hl with | [_, _, _, _], _ => rfl) (fun f cdv A outer s H F0 E hr tk po => ⟨_, (fss_cons (fs_if (ft_cmp op_isN os_isN (FE.r (fe_var (pv 3))) (FE.r fe_non) (nomark _))
      (fss_one (fs_set (i := 3) keeps sc_Move__made.nd rfl (by first | exact .inl rfl | exact .inr rfl) fe_int))
      fss_nil)
    (fss_cons (fs_for po rfl (fi_range1 rfl (T.free 5 rfl) (fa_cons (fe_var (pv 3)) fa_nil)) (fg_name (i := 4) keeps sc_Move__made.nd rfl (by first | exact .inl rfl | exact .inr rfl))
      (fss_one (fs_if (ft_cmp op_notN os_notN (FE.r (fe_var (pv 2))) (FE.r fe_non) (nomark _))
        (fss_one (fs_set (i := 2) keeps sc_Move__made.nd rfl (by first | exact .inl rfl | exact .inr rfl) (fe_dsp (BT_step T) rfl rfl (hr.mono (by decide)) tk (fe_var (pv 0)) (fa_cons (fe_var (pv 1)) (fa_cons (fe_var (pv 2)) fa_nil)) rfl (mCons_len (mCons_len mNil_len)))))
        fss_nil)))
    (fss_one (fs_ret (fe_var (pv 2))))))⟩)
theorem BM_Trace_made (T : TxX fa fn fx K mg) : MB P w K mg base "Trace" "made" 6 4 (spV K mg 4 p_Move__made) := by
  exact T.mbV 48 14 15 83 rfl rfl rfl rfl rfl rfl sc_Move__made (fun _ _ _ _ _ _ us hl => match us, hl with | [_, _, _, _], _ => rfl) (fun f cdv A outer s H F0 E hr tk po => ⟨_, (fss_cons (fs_if (ft_cmp op_isN os_isN (FE.r (fe_var (pv 3))) (FE.r fe_non) (nomark _))
      (fss_one (fs_set (i := 3) keeps sc_Move__made.nd rfl (by first | exact .inl rfl | exact .inr rfl) fe_int))
      fss_nil)
    (fss_cons (fs_for po rfl (fi_range1 rfl (T.free 5 rfl) (fa_cons (fe_var (pv 3)) fa_nil)) (fg_name (i := 4) keeps sc_Move__made.nd rfl (by first | exact .inl rfl | exact .inr rfl))
      (fss_one (fs_if (ft_cmp op_notN os_notN (FE.r (fe_var (pv 2))) (FE.r fe_non) (nomark _))
        (fss_one (fs_set (i := 2) keeps sc_Move__made.nd rfl (by first | exact .inl rfl | exact .inr rfl) (fe_dsp (BT_step T) rfl rfl (hr.mono (by decide)) tk (fe_var (pv 0)) (fa_cons (fe_var (pv 1)) (fa_cons (fe_var (pv 2)) fa_nil)) rfl (mCons_len (mCons_len mNil_len)))))
        fss_nil)))
    (fss_one (fs_ret (fe_var (pv 2))))))⟩)
theorem BM_Across_made (T : TxX fa fn fx K mg) : MB P w K mg base "Across" "made" 6 4 (spV K mg 4 p_Move__made) := by
  exact T.mbV 49 31 72 84 rfl rfl rfl rfl rfl rfl sc_Move__made (fun _ _ _ _ _ _ us hl => match us, hl with | [_, _, _, _], _ => rfl) (fun f cdv A outer s H F0 E hr tk po => ⟨_, (fss_cons (fs_if (ft_cmp op_isN os_isN (FE.r (fe_var (pv 3))) (FE.r fe_non) (nomark _))
      (fss_one (fs_set (i := 3) keeps sc_Move__made.nd rfl (by first | exact .inl rfl | exact .inr rfl) fe_int))
      fss_nil)
    (fss_cons (fs_for po rfl (fi_range1 rfl (T.free 5 rfl) (fa_cons (fe_var (pv 3)) fa_nil)) (fg_name (i := 4) keeps sc_Move__made.nd rfl (by first | exact .inl rfl | exact .inr rfl))
      (fss_one (fs_if (ft_cmp op_notN os_notN (FE.r (fe_var (pv 2))) (FE.r fe_non) (nomark _))
        (fss_one (fs_set (i := 2) keeps sc_Move__made.nd rfl (by first | exact .inl rfl | exact .inr rfl) (fe_dsp (BT_step T) rfl rfl (hr.mono (by decide)) tk (fe_var (pv 0)) (fa_cons (fe_var (pv 1)) (fa_cons (fe_var (pv 2)) fa_nil)) rfl (mCons_len (mCons_len mNil_len)))))
        fss_nil)))
    (fss_one (fs_ret (fe_var (pv 2))))))⟩)
abbrev N_Once__made : List PySem.Str := ["self", "text", "place", "count"]
theorem sc_Once__made : FnScope ["self", "text", "place", "count"] ["self", "text", "place", "count"] (defScope s_Once__made) := ⟨rfl, rfl, rfl, by decide +kernel, rfl, by decide +kernel, by decide +kernel⟩
theorem BM_RowBegin_made (T : TxX fa fn fx K mg) : MB P w K mg base "RowBegin" "made" 6 4 (spV K mg 4 p_Once__made) := by
  exact T.mbV 50 24 58 85 rfl rfl rfl rfl rfl rfl sc_Once__made (fun _ _ _ _ _ _ us hl => match us, hl with | [_, _, _, _], _ => rfl) (fun f cdv A outer s H F0 E hr tk po => ⟨_, (fss_one (fs_ret (fe_dsp (BT_step T) rfl rfl (hr.mono (by decide)) tk (fe_var (pv 0)) (fa_cons (fe_var (pv 1)) (fa_cons (fe_var (pv 2)) fa_nil)) rfl (mCons_len (mCons_len mNil_len)))))⟩)
theorem BM_RowEnd_made (T : TxX fa fn fx K mg) : MB P w K mg base "RowEnd" "made" 6 4 (spV K mg 4 p_Once__made) := by
  exact T.mbV 51 25 60 86 rfl rfl rfl rfl rfl rfl sc_Once__made (fun _ _ _ _ _ _ us hl => match us, hl with | [_, _, _, _], _ => rfl) (fun f cdv A outer s H F0 E hr tk po => ⟨_, (fss_one (fs_ret (fe_dsp (BT_step T) rfl rfl (hr.mono (by decide)) tk (fe_var (pv 0)) (fa_cons (fe_var (pv 1)) (fa_cons (fe_var (pv 2)) fa_nil)) rfl (mCons_len (mCons_len mNil_len)))))⟩)
theorem BM_TextEnd_made (T : TxX fa fn fx K mg) : MB P w K mg base "TextEnd" "made" 6 4 (spV K mg 4 p_Once__made) := by
  exact T.mbV 52 30 70 87 rfl rfl rfl rfl rfl rfl sc_Once__made (fun _ _ _ _ _ _ us hl => match us, hl with | [_, _, _, _], _ => rfl) (fun f cdv A outer s H F0 E hr tk po => ⟨_, (fss_one (fs_ret (fe_dsp (BT_step T) rfl rfl (hr.mono (by decide)) tk (fe_var (pv 0)) (fa_cons (fe_var (pv 1)) (fa_cons (fe_var (pv 2)) fa_nil)) rfl (mCons_len (mCons_len mNil_len)))))⟩)
theorem BM_Mark_made (T : TxX fa fn fx K mg) : MB P w K mg base "Mark" "made" 6 4 (spV K mg 4 p_Once__made) := by
  exact T.mbV 53 17 18 88 rfl rfl rfl rfl rfl rfl sc_Once__made (fun _ _ _ _ _ _ us hl => match us, hl with | [_, _, _, _], _ => rfl) (fun f cdv A outer s H F0 E hr tk po => ⟨_, (fss_one (fs_ret (fe_dsp (BT_step T) rfl rfl (hr.mono (by decide)) tk (fe_var (pv 0)) (fa_cons (fe_var (pv 1)) (fa_cons (fe_var (pv 2)) fa_nil)) rfl (mCons_len (mCons_len mNil_len)))))⟩)
abbrev N_RowNumber__made : List PySem.Str := ["self", "text", "place", "count"]
theorem sc_RowNumber__made : FnScope ["self", "text", "place", "count"] ["self", "text", "place", "count"] (defScope s_RowNumber__made) := ⟨rfl, rfl, rfl, by decide +kernel, rfl, by decide +kernel, by decide +kernel⟩
theorem BM_RowNumber_made (T : TxX fa fn fx K mg) : MB P w K mg base "RowNumber" "made" 3 4 (spV K mg 4 p_RowNumber__made) := by
  have B_begin_of := B_begin_of (P := P) (w := w) (base := base) T
  have B_row_count := B_row_count (P := P) (w := w) (base := base) T
  exact T.mbV 54 26 48 89 rfl rfl rfl rfl rfl rfl sc_RowNumber__made (fun _ _ _ _ _ _ us hl => match us, hl with | [_, _, _, _], _ => rfl) (fun f cdv A outer s H F0 E hr tk po => ⟨_, (fss_cons (fs_if (ft_cmp op_isN os_isN (FE.r (fe_var (pv 3))) (FE.r fe_non) (nomark _))
      (fss_one (fs_ret fe_int))
      fss_nil)
    (fss_cons (fs_if (ft_cmp op_gtA os_gt (FE.r (fe_var (pv 3))) (FE.r (fe_call (FnB.d B_row_count) rfl rfl (hr.mono (by decide)) rfl tk (fa_cons (fe_var (pv 1)) fa_nil) rfl (mCons_len mNil_len))) (nomark _))
      (fss_one (fs_ret fe_non))
      fss_nil)
    (fss_one (fs_ret (fe_call (FnB.d B_begin_of) rfl rfl (hr.mono (by decide)) rfl tk (fa_cons (fe_var (pv 1)) (fa_cons (fe_op op_sub os_sub (FE.r (fe_var (pv 3))) (FE.r fe_int)) fa_nil)) rfl (mCons_len (mCons_len mNil_len)))))))⟩)
abbrev N_row_move : List PySem.Str := ["key"]
theorem sc_row_move : FnScope ["key"] ["key"] (defScope s_row_move) := ⟨rfl, rfl, rfl, by decide +kernel, rfl, by decide +kernel, by decide +kernel⟩
theorem B_row_move (T : TxX fa fn fx K mg) : FnB P w K mg base "row_move" 1 ["key"] (spV K mg 1 p_row_move) := by
  exact T.t.fnbV 12 90 rfl rfl rfl rfl sc_row_move (fun _ _ _ _ _ _ us hl => match us, hl with | [_], _ => rfl) (fun f cdv A outer s H F0 E hr tk po => ⟨_, (fss_cons (fs_if (ft_cmp (op_eqD (hu64 hr)) os_eq (FE.r (fe_var (pv 0))) (FE.r (fe_str [104] (by decide +kernel) (by decide +kernel))) (nomark _))
      (fss_one (fs_ret (fe_new0 rfl rfl (T.mk0 0 rfl) rfl (T.glo 20 rfl))))
      fss_nil)
    (fss_cons (fs_if (ft_cmp (op_eqD (hu64 hr)) os_eq (FE.r (fe_var (pv 0))) (FE.r (fe_str [108] (by decide +kernel) (by decide +kernel))) (nomark _))
      (fss_one (fs_ret (fe_new0 rfl rfl (T.mk0 1 rfl) rfl (T.glo 21 rfl))))
      fss_nil)
    (fss_cons (fs_if (ft_cmp (op_eqD (hu64 hr)) os_eq (FE.r (fe_var (pv 0))) (FE.r (fe_str [106] (by decide +kernel) (by decide +kernel))) (nomark _))
      (fss_one (fs_ret (fe_new0 rfl rfl (T.mk0 2 rfl) rfl (T.glo 22 rfl))))
      fss_nil)
    (fss_cons (fs_if (ft_cmp (op_eqD (hu64 hr)) os_eq (FE.r (fe_var (pv 0))) (FE.r (fe_str [107] (by decide +kernel) (by decide +kernel))) (nomark _))
      (fss_one (fs_ret (fe_new0 rfl rfl (T.mk0 3 rfl) rfl (T.glo 23 rfl))))
      fss_nil)
    (fss_cons (fs_if (ft_cmp (op_eqD (hu64 hr)) os_eq (FE.r (fe_var (pv 0))) (FE.r (fe_str [98] (by decide +kernel) (by decide +kernel))) (nomark _))
      (fss_one (fs_ret (fe_new0 rfl rfl (T.mk0 4 rfl) rfl (T.glo 24 rfl))))
      fss_nil)
    (fss_cons (fs_if (ft_cmp (op_eqD (hu64 hr)) os_eq (FE.r (fe_var (pv 0))) (FE.r (fe_str [101] (by decide +kernel) (by decide +kernel))) (nomark _))
      (fss_one (fs_ret (fe_new0 rfl rfl (T.mk0 5 rfl) rfl (T.glo 25 rfl))))
      fss_nil)
    (fss_cons (fs_if (ft_cmp (op_eqD (hu64 hr)) os_eq (FE.r (fe_var (pv 0))) (FE.r (fe_str [103] (by decide +kernel) (by decide +kernel))) (nomark _))
      (fss_one (fs_ret (fe_new0 rfl rfl (T.mk0 6 rfl) rfl (T.glo 26 rfl))))
      fss_nil)
    (fss_one (fs_ret fe_non)))))))))⟩)
abbrev N_move_of : List PySem.Str := ["keys", "marks", "key"]
theorem sc_move_of : FnScope ["keys", "marks", "key"] ["keys", "marks"] (defScope s_move_of) := ⟨rfl, rfl, rfl, by decide +kernel, rfl, by decide +kernel, by decide +kernel⟩
theorem B_move_of (T : TxX fa fn fx K mg) : FnB P w K mg base "move_of" 3 ["keys", "marks"] (spV K mg 2 p_move_of) := by
  have B_row_move := B_row_move (P := P) (w := w) (base := base) T
  exact T.t.fnbV 13 91 rfl rfl rfl rfl sc_move_of (fun _ _ _ _ _ _ us hl => match us, hl with | [_, _], _ => rfl) (fun f cdv A outer s H F0 E hr tk po => ⟨_, (fss_cons (fs_set (i := 2) keeps sc_move_of.nd rfl (by first | exact .inl rfl | exact .inr rfl) (fe_ix ix_seq os_ix (FE.r (fe_var (pv 0))) (FE.r fe_int) (fun _ _ => rfl)))
    (fss_cons (fs_if (ft_cmp (op_eqD (hu64 hr)) os_eq (FE.r (fe_var (pv 2))) (FE.r (fe_str [119] (by decide +kernel) (by decide +kernel))) (nomark _))
      (fss_one (fs_ret (fe_new0 rfl rfl (T.mk0 7 rfl) rfl (T.glo 27 rfl))))
      fss_nil)
    (fss_cons (fs_if (ft_cmp (op_eqD (hu64 hr)) os_eq (FE.r (fe_var (pv 2))) (FE.r (fe_str [118] (by decide +kernel) (by decide +kernel))) (nomark _))
      (fss_one (fs_ret (fe_new0 rfl rfl (T.mk0 8 rfl) rfl (T.glo 28 rfl))))
      fss_nil)
    (fss_cons (fs_if (ft_cmp (op_eqD (hu64 hr)) os_eq (FE.r (fe_var (pv 2))) (FE.r (fe_str [111] (by decide +kernel) (by decide +kernel))) (nomark _))
      (fss_one (fs_ret (fe_new0 rfl rfl (T.mk0 9 rfl) rfl (T.glo 29 rfl))))
      fss_nil)
    (fss_cons (fs_if (ft_cmp (op_eqD (hu64 hr)) os_eq (FE.r (fe_var (pv 2))) (FE.r (fe_str [102] (by decide +kernel) (by decide +kernel))) (nomark _))
      (fss_one (fs_ret (fe_new1 (k := 0) rfl rfl (M1_Find T) (hr.mono (by decide)) rfl (fe_ix ix_seq os_ix (FE.r (fe_var (pv 0))) (FE.r fe_int) (fun _ _ => rfl)))))
      fss_nil)
    (fss_cons (fs_if (ft_cmp (op_eqD (hu64 hr)) os_eq (FE.r (fe_var (pv 2))) (FE.r (fe_str [116] (by decide +kernel) (by decide +kernel))) (nomark _))
      (fss_one (fs_ret (fe_new1 (k := 0) rfl rfl (M1_Trace T) (hr.mono (by decide)) rfl (fe_ix ix_seq os_ix (FE.r (fe_var (pv 0))) (FE.r fe_int) (fun _ _ => rfl)))))
      fss_nil)
    (fss_cons (fs_if (ft_cmp (op_eqD (hu64 hr)) os_eq (FE.r (fe_var (pv 2))) (FE.r (fe_str [122] (by decide +kernel) (by decide +kernel))) (nomark _))
      (fss_one (fs_ret (fe_new0 rfl rfl (T.mk0 10 rfl) rfl (T.glo 30 rfl))))
      fss_nil)
    (fss_cons (fs_if (ft_cmp (op_eqD (hu64 hr)) os_eq (FE.r (fe_var (pv 2))) (FE.r (fe_str [112] (by decide +kernel) (by decide +kernel))) (nomark _))
      (fss_one (fs_ret (fe_new0 rfl rfl (T.mk0 11 rfl) rfl (T.glo 31 rfl))))
      fss_nil)
    (fss_cons (fs_if (ft_cmp (op_eqD (hu64 hr)) os_eq (FE.r (fe_var (pv 2))) (FE.r (fe_str [109] (by decide +kernel) (by decide +kernel))) (nomark _))
      (fss_one (fs_ret (fe_new1 (k := 0) rfl rfl (M1_Mark T) (hr.mono (by decide)) rfl fe_stuck)))
      fss_nil)
    (fss_one (fs_ret (fe_call (FnB.d B_row_move) rfl rfl (hr.mono (by decide)) rfl tk (fa_cons (fe_var (pv 2)) fa_nil) rfl (mCons_len mNil_len)))))))))))))⟩)
theorem BT_made (T : TxX fa fn fx K mg) : ∀ p ∈ disp_made, MB P w K mg base p.1 "made" 6 4 (spV K mg 4 p.2) :=
  List.forall_mem_cons.mpr ⟨(BM_Left_made T).mono (by decide), List.forall_mem_cons.mpr ⟨(BM_Right_made T).mono (by decide), List.forall_mem_cons.mpr ⟨(BM_Down_made T).mono (by decide), List.forall_mem_cons.mpr ⟨(BM_Up_made T).mono (by decide), List.forall_mem_cons.mpr ⟨(BM_WordOn_made T).mono (by decide), List.forall_mem_cons.mpr ⟨(BM_WordBack_made T).mono (by decide), List.forall_mem_cons.mpr ⟨(BM_WordOut_made T).mono (by decide), List.forall_mem_cons.mpr ⟨(BM_Find_made T).mono (by decide), List.forall_mem_cons.mpr ⟨(BM_Trace_made T).mono (by decide), List.forall_mem_cons.mpr ⟨(BM_Across_made T).mono (by decide), List.forall_mem_cons.mpr ⟨(BM_RowBegin_made T).mono (by decide), List.forall_mem_cons.mpr ⟨(BM_RowEnd_made T).mono (by decide), List.forall_mem_cons.mpr ⟨(BM_TextEnd_made T).mono (by decide), List.forall_mem_cons.mpr ⟨(BM_Mark_made T).mono (by decide), List.forall_mem_cons.mpr ⟨(BM_RowNumber_made T).mono (by decide), fun _ h => nomatch h⟩⟩⟩⟩⟩⟩⟩⟩⟩⟩⟩⟩⟩⟩⟩
abbrev N_gone : List PySem.Str := ["keys", "text", "place", "count", "marks"]
theorem sc_gone : FnScope ["keys", "text", "place", "count", "marks"] ["keys", "text", "place", "count", "marks"] (defScope s_gone) := ⟨rfl, rfl, rfl, by decide +kernel, rfl, by decide +kernel, by decide +kernel⟩
theorem B_gone (T : TxX fa fn fx K mg) : FnBO P w K mg base "gone" 7 ["keys", "text", "place", "count", "marks"] d_gone (spV K mg 5 p_gone) := by
  have B_move_of := B_move_of (P := P) (w := w) (base := base) T
  exact T.t.fnboV 14 92 rfl rfl rfl sc_gone (fun f cdv A outer s H F0 E hr tk po => ⟨_, (fss_cons (fs_if (ft_cmp op_isN os_isN (FE.r (fe_var (pv 4))) (FE.r fe_non) (nomark _))
      (fss_one (fs_set (i := 4) keeps sc_gone.nd rfl (by first | exact .inl rfl | exact .inr rfl) fe_dnew))
      fss_nil)
    (fss_one (fs_ret (fe_dsp (BT_made T) rfl rfl (hr.mono (by decide)) tk (fe_call (FnB.d B_move_of) rfl rfl (hr.mono (by decide)) rfl tk (fa_cons (fe_var (pv 0)) (fa_cons (fe_var (pv 4)) fa_nil)) rfl (mCons_len (mCons_len mNil_len))) (fa_cons (fe_var (pv 1)) (fa_cons (fe_var (pv 2)) (fa_cons (fe_var (pv 3)) fa_nil))) rfl (mCons_len (mCons_len (mCons_len mNil_len)))))))⟩)
theorem B_gone_3 (T : TxX fa fn fx K mg) : FnBD P w K mg base "gone" 7 ["keys", "text", "place", "count", "marks"] [.non, .non] (spV K mg 5 p_gone) := (B_gone T).at 3 0 rfl (by decide) rfl (fun T kV doc pm an cdv ct us its hl hi => match us, its, hl, hi with | [_, _, _], [_, _], _, _ => ⟨_, rfl, rfl⟩)
theorem B_gone_4 (T : TxX fa fn fx K mg) : FnBD P w K mg base "gone" 7 ["keys", "text", "place", "count", "marks"] [.non] (spV K mg 5 p_gone) := (B_gone T).at 4 1 rfl (by decide) rfl (fun T kV doc pm an cdv ct us its hl hi => match us, its, hl, hi with | [_, _, _, _], [_, _], _, _ => ⟨_, rfl, rfl⟩)
theorem B_gone_5 (T : TxX fa fn fx K mg) : FnBD P w K mg base "gone" 7 ["keys", "text", "place", "count", "marks"] [] (spV K mg 5 p_gone) := (B_gone T).at 5 2 rfl (by decide) rfl (fun T kV doc pm an cdv ct us its hl hi => match us, its, hl, hi with | [_, _, _, _, _], [_, _], _, _ => ⟨_, rfl, rfl⟩)
abbrev N_by_rows : List PySem.Str := ["keys"]
theorem sc_by_rows : FnScope ["keys"] ["keys"] (defScope s_by_rows) := ⟨rfl, rfl, rfl, by decide +kernel, rfl, by decide +kernel, by decide +kernel⟩
theorem B_by_rows (T : TxX fa fn fx K mg) : FnB P w K mg base "by_rows" 1 ["keys"] (spV K mg 1 p_by_rows) := by
  exact T.t.fnbV 15 93 rfl rfl rfl rfl sc_by_rows (fun _ _ _ _ _ _ us hl => match us, hl with | [_], _ => rfl) (fun f cdv A outer s H F0 E hr tk po => ⟨_, (fss_one (fs_ret (fe_cmpo op_inA os_in (FE.r (fe_var (pv 0))) (FE.r (fe_tup (fa_cons (fe_str [106] (by decide +kernel) (by decide +kernel)) (fa_cons (fe_str [107] (by decide +kernel) (by decide +kernel)) (fa_cons (fe_str [103] (by decide +kernel) (by decide +kernel)) fa_nil))))) rfl)))⟩)
abbrev N__law_cell_at : List PySem.Str := ["_law_script", "_law_k"]
theorem sc__law_cell_at : FnScope ["_law_script", "_law_k"] ["_law_script", "_law_k"] (defScope s__law_cell_at) := ⟨rfl, rfl, rfl, by decide +kernel, rfl, by decide +kernel, by decide +kernel⟩
theorem B__law_cell_at (T : TxX fa fn fx K mg) : FnB P w K mg base "_law_cell_at" 1 ["_law_script", "_law_k"] (spV K mg 2 p__law_cell_at) := by
  exact T.t.fnbV 16 94 rfl rfl rfl rfl sc__law_cell_at (fun _ _ _ _ _ _ us hl => match us, hl with | [_, _], _ => rfl) (fun f cdv A outer s H F0 E hr tk po => ⟨_, (fss_cons (fs_if (ft_cmp op_ltA os_lt (FE.r (fe_var (pv 1))) (FE.r (fe_callB call_lenV cs_len rfl (T.free 0 rfl) (by decide +kernel) (fb_cons (FE.r (fe_var (pv 0))) fb_nil))) (nomark _))
      (fss_one (fs_ret (fe_ix ix_seq os_ix (FE.r (fe_var (pv 0))) (FE.r (fe_var (pv 1))) (fun _ _ => rfl))))
      fss_nil)
    (fss_one (fs_ret fe_int)))⟩)
abbrev N__law_whole : List PySem.Str := ["_law_found"]
theorem sc__law_whole : FnScope ["_law_found"] ["_law_found"] (defScope s__law_whole) := ⟨rfl, rfl, rfl, by decide +kernel, rfl, by decide +kernel, by decide +kernel⟩
theorem B__law_whole (T : TxX fa fn fx K mg) : FnB P w K mg base "_law_whole" 1 ["_law_found"] (spV K mg 1 p__law_whole) := by
  exact T.t.fnbV 17 95 rfl rfl rfl rfl sc__law_whole (fun _ _ _ _ _ _ us hl => match us, hl with | [_], _ => rfl) (fun f cdv A outer s H F0 E hr tk po => ⟨_, (fss_one (fs_ret (fe_and (fe_callB call_isi cs_isi rfl (T.free 33 rfl) (by decide +kernel) (fb_cons (FE.r (fe_var (pv 0))) (fb_cons (FE.r (fe_ty "int" rfl (T.free 34 rfl) (by decide +kernel))) fb_nil))) (fe_one (fe_not (fe_callB call_isi cs_isi rfl (T.free 33 rfl) (by decide +kernel) (fb_cons (FE.r (fe_var (pv 0))) (fb_cons (FE.r (fe_ty "bool" rfl (T.free 32 rfl) (by decide +kernel))) fb_nil))))))))⟩)
abbrev N__law_same : List PySem.Str := ["_law_found", "_law_due"]
theorem sc__law_same : FnScope ["_law_found", "_law_due"] ["_law_found", "_law_due"] (defScope s__law_same) := ⟨rfl, rfl, rfl, by decide +kernel, rfl, by decide +kernel, by decide +kernel⟩
theorem B__law_same (T : TxX fa fn fx K mg) : FnB P w K mg base "_law_same" 2 ["_law_found", "_law_due"] (spV K mg 2 p__law_same) := by
  have B__law_whole := B__law_whole (P := P) (w := w) (base := base) T
  exact T.t.fnbV 18 96 rfl rfl rfl rfl sc__law_same (fun _ _ _ _ _ _ us hl => match us, hl with | [_, _], _ => rfl) (fun f cdv A outer s H F0 E hr tk po => ⟨_, (fss_cons (fs_if (ft_cmp op_isN os_isN (FE.r (fe_var (pv 1))) (FE.r fe_non) (nomark _))
      (fss_one (fs_ret (fe_cmpo op_isN os_isN (FE.r (fe_var (pv 0))) (FE.r fe_non) (nomark _))))
      fss_nil)
    (fss_one (fs_ret (fe_and (fe_call (FnB.d B__law_whole) rfl rfl (hr.mono (by decide)) rfl tk (fa_cons (fe_var (pv 0)) fa_nil) rfl (mCons_len mNil_len)) (fe_one (fe_cmpo (op_eqD (hu64 hr)) os_eq (FE.r (fe_var (pv 0))) (FE.r (fe_var (pv 1))) (nomark _)))))))⟩)
abbrev N__law_sign : List PySem.Str := ["_law_number", "_law_some", "_law_kind"]
theorem sc__law_sign : FnScope ["_law_number", "_law_some", "_law_kind"] ["_law_number"] (defScope s__law_sign) := ⟨rfl, rfl, rfl, by decide +kernel, rfl, by decide +kernel, by decide +kernel⟩
theorem B__law_sign (T : TxX fa fn fx K mg) : FnB P w K mg base "_law_sign" 1 ["_law_number"] (spV K mg 1 p__law_sign) := by
  exact T.t.fnbV 19 97 rfl rfl rfl rfl sc__law_sign (fun _ _ _ _ _ _ us hl => match us, hl with | [_], _ => rfl) (fun f cdv A outer s H F0 E hr tk po => ⟨_, (fss_cons (fs_set (i := 1) keeps sc__law_sign.nd rfl (by first | exact .inl rfl | exact .inr rfl) (fe_str ks_63cbdf (by decide +kernel) (by decide +kernel)))
    (fss_cons (fs_set (i := 2) keeps sc__law_sign.nd rfl (by first | exact .inl rfl | exact .inr rfl) (fe_op op_mod os_mod (FE.r (fe_var (pv 0))) (FE.r fe_int)))
    (fss_cons (fs_if (ft_cmp (op_eqD (hu64 hr)) os_eq (FE.r (fe_var (pv 2))) (FE.r fe_int) (nomark _))
      (fss_one (fs_ret (fe_str [10] (by decide +kernel) (by decide +kernel))))
      fss_nil)
    (fss_cons (fs_if (ft_cmp (op_eqD (hu64 hr)) os_eq (FE.r (fe_var (pv 2))) (FE.r fe_int) (nomark _))
      (fss_one (fs_ret (fe_str [32] (by decide +kernel) (by decide +kernel))))
      fss_nil)
    (fss_cons (fs_if (ft_cmp (op_eqD (hu64 hr)) os_eq (FE.r (fe_var (pv 2))) (FE.r fe_int) (nomark _))
      (fss_one (fs_ret (fe_ix ix_seq os_ix (FE.r (fe_str [40, 41, 91, 93, 123, 125] (by decide +kernel) (by decide +kernel))) (FE.r (fe_op op_mod os_mod (FE.r (fe_op op_fdivW os_fdiv (FE.r (fe_var (pv 0))) (FE.r fe_int))) (FE.r fe_int))) (fun _ _ => rfl))))
      fss_nil)
    (fss_cons (fs_if (ft_cmp op_ltA os_lt (FE.r (fe_var (pv 2))) (FE.r fe_int) (nomark _))
      (fss_one (fs_ret (fe_ix ix_seq os_ix (FE.r (fe_str [97, 66, 48, 32, 122, 57, 89, 40, 120, 99, 41, 100, 49, 69, 32, 102] (by decide +kernel) (by decide +kernel))) (FE.r (fe_op op_mod os_mod (FE.r (fe_op op_fdivW os_fdiv (FE.r (fe_var (pv 0))) (FE.r fe_int))) (FE.r fe_int))) (fun _ _ => rfl))))
      fss_nil)
    (fss_one (fs_ret (fe_ix ix_seq os_ix (FE.r (fe_var (pv 1))) (FE.r (fe_op op_mod os_mod (FE.r (fe_op op_fdivW os_fdiv (FE.r (fe_var (pv 0))) (FE.r fe_int))) (FE.r fe_int))) (fun _ _ => rfl))))))))))⟩)
abbrev N__law_text : List PySem.Str := ["_law_script", "_law_signs", "_law_text_here", "_law_cell"]
theorem sc__law_text : FnScope ["_law_script", "_law_signs", "_law_text_here", "_law_cell"] ["_law_script"] (defScope s__law_text) := ⟨rfl, rfl, rfl, by decide +kernel, rfl, by decide +kernel, by decide +kernel⟩
theorem B__law_text (T : TxX fa fn fx K mg) : FnB P w K mg base "_law_text" 2 ["_law_script"] (spV K mg 1 p__law_text) := by
  have B__law_cell_at := B__law_cell_at (P := P) (w := w) (base := base) T
  have B__law_sign := B__law_sign (P := P) (w := w) (base := base) T
  exact T.t.fnbV 20 98 rfl rfl rfl rfl sc__law_text (fun _ _ _ _ _ _ us hl => match us, hl with | [_], _ => rfl) (fun f cdv A outer s H F0 E hr tk po => ⟨_, (fss_cons (fs_setLc (i := 1) [("_law_cell", 3)] keeps rfl sc__law_text.nd rfl rfl (sw_true rfl rfl rfl (by decide +kernel)) (fi_any rfl (fe_slice rfl (FE.r (fe_var (pv 0))) (fo_some fe_int) (fo_some fe_int))) (blkOk_by (N := N__law_text) (sc := defScope s__law_text) (by decide +kernel)) (fun _ _ _ _ _ _ => ⟨_, (fg_name (i := 3) (keepsW (by decide)) sc__law_text.nd rfl (by first | exact .inl rfl | exact .inr rfl))⟩) (fun _ _ _ _ _ _ => ⟨_, fts_nil⟩) (fun _ _ _ _ _ _ => ⟨_, (fe_call (FnB.d B__law_sign) rfl rfl (hr.mono (by decide)) rfl takesB (fa_cons (fe_var (pv 3)) fa_nil) rfl (mCons_len mNil_len))⟩))
    (fss_cons (fs_set (i := 2) keeps sc__law_text.nd rfl (by first | exact .inl rfl | exact .inr rfl) (fe_meth PySem.F.slot_str_join PySem.F.type_str_join mt_join sm_join (fe_str [] (by decide +kernel) (by decide +kernel)) (fb_cons (FE.r (fe_var (pv 1))) fb_nil)))
    (fss_cons (fs_if (FW.t (fw_and (ft_cmp (op_eqD (hu64 hr)) os_eq (FE.r (fe_op op_mod os_mod (FE.r (fe_call (FnB.d B__law_cell_at) rfl rfl (hr.mono (by decide)) rfl tk (fa_cons (fe_var (pv 0)) (fa_cons fe_int fa_nil)) rfl (mCons_len (mCons_len mNil_len)))) (FE.r fe_int))) (FE.r fe_int) (nomark _)) (fw_and1 (ft_cmp op_gtA os_gt (FE.r (fe_callB call_lenV cs_len rfl (T.free 0 rfl) (by decide +kernel) (fb_cons (FE.r (fe_var (pv 1))) fb_nil))) (FE.r fe_int) (nomark _)))))
      (fss_one (fs_set (i := 2) keeps sc__law_text.nd rfl (by first | exact .inl rfl | exact .inr rfl) (fe_slice rfl (FE.r (fe_op op_mulA os_mul (FE.r (fe_var (pv 2))) (FE.r (fe_op op_addA os_add (FE.r (fe_op op_fdivW os_fdiv (FE.r fe_int) (FE.r (fe_callB call_lenV cs_len rfl (T.free 0 rfl) (by decide +kernel) (fb_cons (FE.r (fe_var (pv 1))) fb_nil))))) (FE.r fe_int))))) fo_none (fo_some (fe_op op_sub os_sub (FE.r fe_int) (FE.r (fe_op op_mod os_mod (FE.r (fe_op op_fdivW os_fdiv (FE.r (fe_call (FnB.d B__law_cell_at) rfl rfl (hr.mono (by decide)) rfl tk (fa_cons (fe_var (pv 0)) (fa_cons fe_int fa_nil)) rfl (mCons_len (mCons_len mNil_len)))) (FE.r fe_int))) (FE.r fe_int))))))))
      fss_nil)
    (fss_one (fs_ret (fe_var (pv 2)))))))⟩)
abbrev N__law_keys : List PySem.Str := ["_law_text_here", "_law_number", "_law_key", "_law_sign_here"]
theorem sc__law_keys : FnScope ["_law_text_here", "_law_number", "_law_key", "_law_sign_here"] ["_law_text_here", "_law_number"] (defScope s__law_keys) := ⟨rfl, rfl, rfl, by decide +kernel, rfl, by decide +kernel, by decide +kernel⟩
theorem B__law_keys (T : TxX fa fn fx K mg) : FnB P w K mg base "_law_keys" 1 ["_law_text_here", "_law_number"] (spV K mg 2 p__law_keys) := by
  exact T.t.fnbV 21 99 rfl rfl rfl rfl sc__law_keys (fun _ _ _ _ _ _ us hl => match us, hl with | [_, _], _ => rfl) (fun f cdv A outer s H F0 E hr tk po => ⟨_, (fss_cons (fs_set (i := 2) keeps sc__law_keys.nd rfl (by first | exact .inl rfl | exact .inr rfl) (fe_ix ix_seq os_ix (FE.r (fe_str [104, 108, 106, 107, 119, 118, 111, 102, 116, 112, 98, 101, 122] (by decide +kernel) (by decide +kernel))) (FE.r (fe_op op_mod os_mod (FE.r (fe_var (pv 1))) (FE.r fe_int))) (fun _ _ => rfl)))
    (fss_cons (fs_if (FW.t (fw_and (ft_cmp (op_neD (hu64 hr)) os_ne (FE.r (fe_var (pv 2))) (FE.r (fe_str [102] (by decide +kernel) (by decide +kernel))) (nomark _)) (fw_and1 (ft_cmp (op_neD (hu64 hr)) os_ne (FE.r (fe_var (pv 2))) (FE.r (fe_str [116] (by decide +kernel) (by decide +kernel))) (nomark _)))))
      (fss_one (fs_ret (fe_var (pv 2))))
      fss_nil)
    (fss_cons (fs_set (i := 3) keeps sc__law_keys.nd rfl (by first | exact .inl rfl | exact .inr rfl) (fe_str [32] (by decide +kernel) (by decide +kernel)))
    (fss_cons (fs_if (ft_cmp op_gtA os_gt (FE.r (fe_callB call_lenV cs_len rfl (T.free 0 rfl) (by decide +kernel) (fb_cons (FE.r (fe_var (pv 0))) fb_nil))) (FE.r fe_int) (nomark _))
      (fss_one (fs_set (i := 3) keeps sc__law_keys.nd rfl (by first | exact .inl rfl | exact .inr rfl) (fe_ix ix_seq os_ix (FE.r (fe_var (pv 0))) (FE.r (fe_op op_mod os_mod (FE.r (fe_op op_fdivW os_fdiv (FE.r (fe_var (pv 1))) (FE.r fe_int))) (FE.r (fe_callB call_lenV cs_len rfl (T.free 0 rfl) (by decide +kernel) (fb_cons (FE.r (fe_var (pv 0))) fb_nil))))) (fun _ _ => rfl))))
      fss_nil)
    (fss_cons (fs_if (ft_cmp (op_eqD (hu64 hr)) os_eq (FE.r (fe_var (pv 3))) (FE.r (fe_str [10] (by decide +kernel) (by decide +kernel))) (nomark _))
      (fss_one (fs_set (i := 3) keeps sc__law_keys.nd rfl (by first | exact .inl rfl | exact .inr rfl) (fe_str [32] (by decide +kernel) (by decide +kernel))))
      fss_nil)
    (fss_one (fs_ret (fe_op op_addA os_add (FE.r (fe_var (pv 2))) (FE.r (fe_var (pv 3)))))))))))⟩)
abbrev N__law_many : List PySem.Str := ["_law_text_here", "_law_keys_here", "_law_place", "_law_count", "_law_turn"]
theorem sc__law_many : FnScope ["_law_text_here", "_law_keys_here", "_law_place", "_law_count", "_law_turn"] ["_law_text_here", "_law_keys_here", "_law_place", "_law_count"] (defScope s__law_many) := ⟨rfl, rfl, rfl, by decide +kernel, rfl, by decide +kernel, by decide +kernel⟩
theorem B__law_many (T : TxX fa fn fx K mg) : FnB P w K mg base "_law_many" 8 ["_law_text_here", "_law_keys_here", "_law_place", "_law_count"] (spV K mg 4 p__law_many) := by
  exact T.t.fnbV 22 100 rfl rfl rfl rfl sc__law_many (fun _ _ _ _ _ _ us hl => match us, hl with | [_, _, _, _], _ => rfl) (fun f cdv A outer s H F0 E hr tk po => ⟨_, (fss_cons (fs_if (ft_cmp op_inA os_in (FE.r (fe_var (pv 1))) (FE.r (fe_tup (fa_cons (fe_str [98] (by decide +kernel) (by decide +kernel)) (fa_cons (fe_str [101] (by decide +kernel) (by decide +kernel)) (fa_cons (fe_str [122] (by decide +kernel) (by decide +kernel)) fa_nil))))) rfl)
      (fss_one (fs_ret (fe_call (B_gone_3 T) rfl rfl (hr.mono (by decide)) rfl tk (fa_cons (fe_var (pv 1)) (fa_cons (fe_var (pv 0)) (fa_cons (fe_var (pv 2)) fa_nil))) rfl (mCons_len (mCons_len (mCons_len mNil_len))))))
      fss_nil)
    (fss_cons (fs_for po rfl (fi_range1 rfl (T.free 5 rfl) (fa_cons (fe_var (pv 3)) fa_nil)) (fg_name (i := 4) keeps sc__law_many.nd rfl (by first | exact .inl rfl | exact .inr rfl))
      (fss_one (fs_if (ft_cmp op_notN os_notN (FE.r (fe_var (pv 2))) (FE.r fe_non) (nomark _))
        (fss_one (fs_set (i := 2) keeps sc__law_many.nd rfl (by first | exact .inl rfl | exact .inr rfl) (fe_call (B_gone_3 T) rfl rfl (hr.mono (by decide)) rfl tk (fa_cons (fe_var (pv 1)) (fa_cons (fe_var (pv 0)) (fa_cons (fe_var (pv 2)) fa_nil))) rfl (mCons_len (mCons_len (mCons_len mNil_len))))))
        fss_nil)))
    (fss_one (fs_ret (fe_var (pv 2))))))⟩)
abbrev N__law_by_rows : List PySem.Str := ["_law_keys_here", "_law_found"]
theorem sc__law_by_rows : FnScope ["_law_keys_here", "_law_found"] [] (defScope s__law_by_rows) := ⟨rfl, rfl, rfl, by decide +kernel, rfl, by decide +kernel, by decide +kernel⟩
theorem B__law_by_rows (T : TxX fa fn fx K mg) : FnB P w K mg base "_law_by_rows" 2 [] (spV K mg 0 p__law_by_rows) := by
  have B_by_rows := B_by_rows (P := P) (w := w) (base := base) T
  exact T.t.fnbV 23 101 rfl rfl rfl rfl sc__law_by_rows (fun _ _ _ _ _ _ us hl => match us, hl with | [], _ => rfl) (fun f cdv A outer s H F0 E hr tk po => ⟨_, (fss_cons (fs_for po rfl (fi_any rfl (FL.e (fl_lst (fa_cons (fe_str [104] (by decide +kernel) (by decide +kernel)) (fa_cons (fe_str [108] (by decide +kernel) (by decide +kernel)) (fa_cons (fe_str [106] (by decide +kernel) (by decide +kernel)) (fa_cons (fe_str [107] (by decide +kernel) (by decide +kernel)) (fa_cons (fe_str [98] (by decide +kernel) (by decide +kernel)) (fa_cons (fe_str [101] (by decide +kernel) (by decide +kernel)) (fa_cons (fe_str [119] (by decide +kernel) (by decide +kernel)) (fa_cons (fe_str [118] (by decide +kernel) (by decide +kernel)) (fa_cons (fe_str [111] (by decide +kernel) (by decide +kernel)) (fa_cons (fe_str [103] (by decide +kernel) (by decide +kernel)) (fa_cons (fe_str [122] (by decide +kernel) (by decide +kernel)) (fa_cons (fe_str [112] (by decide +kernel) (by decide +kernel)) (fa_cons (fe_str [102, 106] (by decide +kernel) (by decide +kernel)) (fa_cons (fe_str [116, 107] (by decide +kernel) (by decide +kernel)) (fa_cons (fe_str [109, 103] (by decide +kernel) (by decide +kernel)) (fa_cons (fe_str [102, 32] (by decide +kernel) (by decide +kernel)) (fa_cons (fe_str [109, 106] (by decide +kernel) (by decide +kernel)) (fa_cons (fe_str [116, 41] (by decide +kernel) (by decide +kernel)) fa_nil))))))))))))))))))))) (fg_name (i := 0) keeps sc__law_by_rows.nd rfl (by first | exact .inl rfl | exact .inr rfl))
      (fss_cons (fs_set (i := 1) keeps sc__law_by_rows.nd rfl (by first | exact .inl rfl | exact .inr rfl) (fe_call (FnB.d B_by_rows) rfl rfl (hr.mono (by decide)) rfl tk (fa_cons (fe_var (pv 0)) fa_nil) rfl (mCons_len mNil_len)))
      (fss_one (fs_if (FW.t (fw_or (ft_not (ft_val (fe_callB call_isi cs_isi rfl (T.free 33 rfl) (by decide +kernel) (fb_cons (FE.r (fe_var (pv 1))) (fb_cons (FE.r (fe_ty "bool" rfl (T.free 32 rfl) (by decide +kernel))) fb_nil))))) (fw_or1 (ft_cmp (op_neD (hu64 hr)) os_ne (FE.r (fe_var (pv 1))) (FE.r (fe_cmpo op_inA os_in (FE.r (fe_var (pv 0))) (FL.r (fl_lst (fa_cons (fe_str [106] (by decide +kernel) (by decide +kernel)) (fa_cons (fe_str [107] (by decide +kernel) (by decide +kernel)) (fa_cons (fe_str [103] (by decide +kernel) (by decide +kernel)) fa_nil))))) rfl)) (nomark _)))))
        (fss_one (fs_ret fe_bl))
        fss_nil))))
    (fss_one (fs_ret fe_bl)))⟩)
abbrev N_law : List PySem.Str := ["_law_script", "_law_text_here", "_law_cells", "_law_most", "_law_cell", "_law_number", "_law_place", "_law_keys_here", "_law_count", "_law_due"]
theorem sc_law : FnScope ["_law_script", "_law_text_here", "_law_cells", "_law_most", "_law_cell", "_law_number", "_law_place", "_law_keys_here", "_law_count", "_law_due"] ["_law_script"] (defScope s_law) := ⟨rfl, rfl, rfl, by decide +kernel, rfl, by decide +kernel, by decide +kernel⟩
theorem B_law (T : TxX fa fn fx K mg) : FnB P w K mg base "law" 9 ["_law_script"] (spV K mg 1 p_law) := by
  have B__law_by_rows := B__law_by_rows (P := P) (w := w) (base := base) T
  have B__law_keys := B__law_keys (P := P) (w := w) (base := base) T
  have B__law_many := B__law_many (P := P) (w := w) (base := base) T
  have B__law_same := B__law_same (P := P) (w := w) (base := base) T
  have B__law_text := B__law_text (P := P) (w := w) (base := base) T
  exact T.t.fnbV 24 35 rfl rfl rfl rfl sc_law (fun _ _ _ _ _ _ us hl => match us, hl with | [_], _ => rfl) (fun f cdv A outer s H F0 E hr tk po => ⟨_, (fss_cons (fs_set (i := 1) keeps sc_law.nd rfl (by first | exact .inl rfl | exact .inr rfl) (fe_call (FnB.d B__law_text) rfl rfl (hr.mono (by decide)) rfl tk (fa_cons (fe_var (pv 0)) fa_nil) rfl (mCons_len mNil_len)))
    (fss_cons (fs_set (i := 2) keeps sc_law.nd rfl (by first | exact .inl rfl | exact .inr rfl) (fe_slice rfl (FE.r (fe_var (pv 0))) (fo_some fe_int) (fo_some fe_int)))
    (fss_cons (fs_if (ft_cmp op_gtA os_gt (FE.r (fe_callB call_lenV cs_len rfl (T.free 0 rfl) (by decide +kernel) (fb_cons (FE.r (fe_var (pv 1))) fb_nil))) (FE.r fe_int) (nomark _))
      (fss_one (fs_set (i := 2) keeps sc_law.nd rfl (by first | exact .inl rfl | exact .inr rfl) (fe_slice rfl (FE.r (fe_var (pv 0))) (fo_some fe_int) (fo_some fe_int))))
      fss_nil)
    (fss_cons (fs_set (i := 3) keeps sc_law.nd rfl (by first | exact .inl rfl | exact .inr rfl) fe_int)
    (fss_cons (fs_for po rfl (fi_any rfl (fe_var (pv 2))) (fg_name (i := 4) keeps sc_law.nd rfl (by first | exact .inl rfl | exact .inr rfl))
      (fss_cons (fs_set (i := 5) keeps sc_law.nd rfl (by first | exact .inl rfl | exact .inr rfl) (fe_op op_mod os_mod (FE.r (fe_op op_mulA os_mul (FE.r (fe_var (pv 4))) (FE.r fe_int))) (FE.r fe_int)))
      (fss_cons (fs_set (i := 6) keeps sc_law.nd rfl (by first | exact .inl rfl | exact .inr rfl) (fe_op op_mod os_mod (FE.r (fe_op op_mod os_mod (FE.r (fe_op op_mulA os_mul (FE.r (fe_var (pv 4))) (FE.r fe_int))) (FE.r fe_int))) (FE.r (fe_op op_addA os_add (FE.r (fe_callB call_lenV cs_len rfl (T.free 0 rfl) (by decide +kernel) (fb_cons (FE.r (fe_var (pv 1))) fb_nil))) (FE.r fe_int)))))
      (fss_cons (fs_set (i := 7) keeps sc_law.nd rfl (by first | exact .inl rfl | exact .inr rfl) (fe_call (FnB.d B__law_keys) rfl rfl (hr.mono (by decide)) rfl tk (fa_cons (fe_var (pv 1)) (fa_cons (fe_var (pv 5)) fa_nil)) rfl (mCons_len (mCons_len mNil_len))))
      (fss_cons (fs_if (ft_cmp op_inA os_in (FE.r (fe_var (pv 7))) (FE.r (fe_tup (fa_cons (fe_str [106] (by decide +kernel) (by decide +kernel)) (fa_cons (fe_str [107] (by decide +kernel) (by decide +kernel)) (fa_cons (fe_str [112] (by decide +kernel) (by decide +kernel)) fa_nil))))) rfl)
        (fss_one (fs_set (i := 3) keeps sc_law.nd rfl (by first | exact .inl rfl | exact .inr rfl) (fe_callB (call_min2' rfl) cs_min2 rfl (T.free 6 rfl) (by decide +kernel) (fb_cons (FE.r (fe_var (pv 3))) (fb_cons (FE.r fe_int) fb_nil)))))
        fss_nil)
      (fss_cons (fs_set (i := 8) keeps sc_law.nd rfl (by first | exact .inl rfl | exact .inr rfl) (fe_op op_addA os_add (FE.r fe_int) (FE.r (fe_op op_mod os_mod (FE.r (fe_op op_fdivW os_fdiv (FE.r (fe_var (pv 5))) (FE.r fe_int))) (FE.r (fe_var (pv 3)))))))
      (fss_cons (fs_set (i := 9) keeps sc_law.nd rfl (by first | exact .inl rfl | exact .inr rfl) (fe_call (FnB.d B__law_many) rfl rfl (hr.mono (by decide)) rfl tk (fa_cons (fe_var (pv 1)) (fa_cons (fe_var (pv 7)) (fa_cons (fe_var (pv 6)) (fa_cons (fe_var (pv 8)) fa_nil)))) rfl (mCons_len (mCons_len (mCons_len (mCons_len mNil_len))))))
      (fss_cons (fs_if (FW.t (fw_or (ft_not (ft_val (fe_call (FnB.d B__law_same) rfl rfl (hr.mono (by decide)) rfl tk (fa_cons (fe_call (B_gone_4 T) rfl rfl (hr.mono (by decide)) rfl tk (fa_cons (fe_var (pv 7)) (fa_cons (fe_var (pv 1)) (fa_cons (fe_var (pv 6)) (fa_cons (fe_var (pv 8)) fa_nil)))) rfl (mCons_len (mCons_len (mCons_len (mCons_len mNil_len))))) (fa_cons (fe_var (pv 9)) fa_nil)) rfl (mCons_len (mCons_len mNil_len))))) (fw_or1 (ft_not (ft_val (fe_call (FnB.d B__law_same) rfl rfl (hr.mono (by decide)) rfl tk (fa_cons (fe_call (B_gone_5 T) rfl rfl (hr.mono (by decide)) rfl tk (fa_cons (fe_var (pv 7)) (fa_cons (fe_var (pv 1)) (fa_cons (fe_var (pv 6)) (fa_cons (fe_var (pv 8)) (fa_cons fe_dnew fa_nil))))) rfl (mCons_len (mCons_len (mCons_len (mCons_len (mCons_len mNil_len)))))) (fa_cons (fe_var (pv 9)) fa_nil)) rfl (mCons_len (mCons_len mNil_len))))))))
        (fss_one (fs_ret fe_bl))
        fss_nil)
      (fss_cons (fs_if (ft_not (ft_val (fe_call (FnB.d B__law_same) rfl rfl (hr.mono (by decide)) rfl tk (fa_cons (fe_call (B_gone_4 T) rfl rfl (hr.mono (by decide)) rfl tk (fa_cons (fe_var (pv 7)) (fa_cons (fe_var (pv 1)) (fa_cons (fe_var (pv 6)) (fa_cons fe_non fa_nil)))) rfl (mCons_len (mCons_len (mCons_len (mCons_len mNil_len))))) (fa_cons (fe_call (B_gone_3 T) rfl rfl (hr.mono (by decide)) rfl tk (fa_cons (fe_var (pv 7)) (fa_cons (fe_var (pv 1)) (fa_cons (fe_var (pv 6)) fa_nil))) rfl (mCons_len (mCons_len (mCons_len mNil_len)))) fa_nil)) rfl (mCons_len (mCons_len mNil_len)))))
        (fss_one (fs_ret fe_bl))
        fss_nil)
      (fss_one (fs_set (i := 3) keeps sc_law.nd rfl (by first | exact .inl rfl | exact .inr rfl) fe_int)))))))))))
    (fss_one (fs_ret (fe_call0 (FnB.d B__law_by_rows) rfl rfl (hr.mono (by decide)) rfl tk rfl))))))))⟩)
end

end LW

set_option Elab.async false
set_option linter.all false
set_option maxRecDepth 100000
set_option maxHeartbeats 4000000
namespace LW
open FL
theorem e_cell (ns : List Int) (k : Int) (h : 0 ≤ k) : p__law_cell_at [.scr ns, .int k] = .ok (.int (ns.getD k.toNat 0)) := by
  rw [u__law_cell_at]
  unfold b__law_cell_at
  by_cases hk : k < (ns.length : Int)
  · simp -implicitDefEqProofs (disch := first | omega | (simp only [List.length_map, List.length_append, List.length_cons, List.length_nil, List.length_take, List.length_drop, repS_len, rngL_len, List.length_range, List.length_reverse]; done) | (simp only [List.length_map, List.length_append, List.length_cons, List.length_nil, List.length_take, List.length_drop, repS_len, rngL_len, List.length_range, List.length_reverse]; omega)) only [mVar_ev, mVarR_ev, getV_val, getR_val, getR_own, mC_ev, mOp_ev, mOpL_ev, mT_ev, asB_bl, mAnd_ev, mOr_ev, mNot_ev, mAndV_ev, mOrV_ev, mNotV_ev, mIf_ev, mNil_ev, mCons_ev, mTup_ev, mLst_ev, mCall_ev, mPn_ev, mPs_ev, asI_int, mSl_ev, mSlL_ev, asL_lst, asL_scr, asTp_tup, asSt_str, R_ite, mWalk_ev, mLe_ev, mNeg_ev, mSeq_ev, mSkip_ev, bind_nx, bind_rt, bind_rtL, bind_bk, bind_ct, bind_ex, bind_ite, lift_ok, lift_exc, lift_ite, mAsg_ev, mAsgL_ev, mDrop_ev, mRet_ev, mRetL_ev, mRetN_ev, mRetOwn_ev, getO_own, mIfS_ev, mSet1_ev, onO_own, onO_val, mAppend_ev, putO_own, mAsgG_ev, optSO_some, gSet_ev, gsNil_ev, gsCons_ev, obind_some, gTupM_1, gTupM_2, gTupM_3, gTupM_4, gTupM_5, gTupM_6, mFor_ev, retD_nx, retD_rt, retD_rtL, retD_ex, retD_ite, retLs_rtL, retLs_ex, retLs_ite, nth_zero, nth_succ, set_zero, set_succ, add_int, add_str, add_lst, lcat_lst, sub_int', neg_int', lt_int', le_int', gt_int', ge_int', mod_int', fdiv_int, mul_int', mul_str', isN_non, isN_int, notN_non, notN_int, eq_int', ne_int', eq_str', ne_str', eq_bl', ne_bl', len_str', len_lst, len_tup, len_scr, max_int, min_int, sl_str', sl_lst, sl_scr, lsl_lst, lsl_scr, ix_str', ix_lst, ix_tup', ix_scr, range1_ok, range2_ok, range3_ok, mMeth_ev, onStr_str, mComp_ev, mCh_ev, wipeE_nil, wipeE_cons, mYes_ev, int_int, int_bl, asW_lst, asW_tup, asW_scr, asW_str, lt_str', le_str', gt_str', ge_str', mRaise_ev, sum_ints, all_bls, any_bls, list_lst, list_tup, list_scr, sorted_ints', g_find_ev, g_find3_ev, g_find4_ev, g_rfind_ev, g_rfind4_ev, g_count_ev, g_count3_ev, g_count4_ev, g_startswith_ev, g_endswith_ev, Int.reduceToNat, List.getD_cons_zero, List.getD_cons_succ, List.length_map, List.length_reverse, Int.zero_mul, Int.mul_zero, Int.add_zero, Int.mul_one, nc0, nc1, nc2, nc3, nc4, nc5, nc6, nc7, nc8, nc9, nc10, nc11, nc12, nc13, List.cons_append, List.nil_append, decide_true, decide_false, not_false_eq_true, not_true_eq_false, mCallR_ev, retLE_rtL, retDE_rt, flatR_bl, flatR_int, flatR_str, flatR_non, flatR_exc, getOwn_own, mMut0_ev, mSetIx_ev, putIx_ok, rev_lst, lrep_ev, if_small, if_small', rngL_len, endS_nx, endS_rt, in_sign, notIn_sign, isN_str, notN_str, isN_tup, notN_tup, isi_int_int, isi_int_bool, isi_bl_bool, isi_bl_int, isi_str_str, isi_tup_tup, isi_lst_lst, isi_non_int, isi_non_tup, _root_.FL.R.ok_bind, _root_.FL.R.exc_bind, _root_.FL.R.stuck_bind, _root_.FL.R.pure_eq, List.append_nil, List.length_cons, List.length_nil, Nat.zero_add, Nat.reduceAdd, Nat.reduceLeDiff, Nat.reduceLT, and_self, and_true, true_and, nextK_nx, nextK_ct, nextK_bk, nextK_rt, nextK_rtL, nextK_ex, nextK_ite, decide_eq_true_eq, if_true, if_false, ite_true, ite_false, Bool.true_eq_false, Bool.false_eq_true, Bool.not_true, Bool.not_false, reduceIte, Bool.not_eq_true', decide_eq_false_iff_not, hk]
  · simp -implicitDefEqProofs (disch := first | omega | (simp only [List.length_map, List.length_append, List.length_cons, List.length_nil, List.length_take, List.length_drop, repS_len, rngL_len, List.length_range, List.length_reverse]; done) | (simp only [List.length_map, List.length_append, List.length_cons, List.length_nil, List.length_take, List.length_drop, repS_len, rngL_len, List.length_range, List.length_reverse]; omega)) only [mVar_ev, mVarR_ev, getV_val, getR_val, getR_own, mC_ev, mOp_ev, mOpL_ev, mT_ev, asB_bl, mAnd_ev, mOr_ev, mNot_ev, mAndV_ev, mOrV_ev, mNotV_ev, mIf_ev, mNil_ev, mCons_ev, mTup_ev, mLst_ev, mCall_ev, mPn_ev, mPs_ev, asI_int, mSl_ev, mSlL_ev, asL_lst, asL_scr, asTp_tup, asSt_str, R_ite, mWalk_ev, mLe_ev, mNeg_ev, mSeq_ev, mSkip_ev, bind_nx, bind_rt, bind_rtL, bind_bk, bind_ct, bind_ex, bind_ite, lift_ok, lift_exc, lift_ite, mAsg_ev, mAsgL_ev, mDrop_ev, mRet_ev, mRetL_ev, mRetN_ev, mRetOwn_ev, getO_own, mIfS_ev, mSet1_ev, onO_own, onO_val, mAppend_ev, putO_own, mAsgG_ev, optSO_some, gSet_ev, gsNil_ev, gsCons_ev, obind_some, gTupM_1, gTupM_2, gTupM_3, gTupM_4, gTupM_5, gTupM_6, mFor_ev, retD_nx, retD_rt, retD_rtL, retD_ex, retD_ite, retLs_rtL, retLs_ex, retLs_ite, nth_zero, nth_succ, set_zero, set_succ, add_int, add_str, add_lst, lcat_lst, sub_int', neg_int', lt_int', le_int', gt_int', ge_int', mod_int', fdiv_int, mul_int', mul_str', isN_non, isN_int, notN_non, notN_int, eq_int', ne_int', eq_str', ne_str', eq_bl', ne_bl', len_str', len_lst, len_tup, len_scr, max_int, min_int, sl_str', sl_lst, sl_scr, lsl_lst, lsl_scr, ix_str', ix_lst, ix_tup', ix_scr, range1_ok, range2_ok, range3_ok, mMeth_ev, onStr_str, mComp_ev, mCh_ev, wipeE_nil, wipeE_cons, mYes_ev, int_int, int_bl, asW_lst, asW_tup, asW_scr, asW_str, lt_str', le_str', gt_str', ge_str', mRaise_ev, sum_ints, all_bls, any_bls, list_lst, list_tup, list_scr, sorted_ints', g_find_ev, g_find3_ev, g_find4_ev, g_rfind_ev, g_rfind4_ev, g_count_ev, g_count3_ev, g_count4_ev, g_startswith_ev, g_endswith_ev, Int.reduceToNat, List.getD_cons_zero, List.getD_cons_succ, List.length_map, List.length_reverse, Int.zero_mul, Int.mul_zero, Int.add_zero, Int.mul_one, nc0, nc1, nc2, nc3, nc4, nc5, nc6, nc7, nc8, nc9, nc10, nc11, nc12, nc13, List.cons_append, List.nil_append, decide_true, decide_false, not_false_eq_true, not_true_eq_false, mCallR_ev, retLE_rtL, retDE_rt, flatR_bl, flatR_int, flatR_str, flatR_non, flatR_exc, getOwn_own, mMut0_ev, mSetIx_ev, putIx_ok, rev_lst, lrep_ev, if_small, if_small', rngL_len, endS_nx, endS_rt, in_sign, notIn_sign, isN_str, notN_str, isN_tup, notN_tup, isi_int_int, isi_int_bool, isi_bl_bool, isi_bl_int, isi_str_str, isi_tup_tup, isi_lst_lst, isi_non_int, isi_non_tup, _root_.FL.R.ok_bind, _root_.FL.R.exc_bind, _root_.FL.R.stuck_bind, _root_.FL.R.pure_eq, List.append_nil, List.length_cons, List.length_nil, Nat.zero_add, Nat.reduceAdd, Nat.reduceLeDiff, Nat.reduceLT, and_self, and_true, true_and, nextK_nx, nextK_ct, nextK_bk, nextK_rt, nextK_rtL, nextK_ex, nextK_ite, decide_eq_true_eq, if_true, if_false, ite_true, ite_false, Bool.true_eq_false, Bool.false_eq_true, Bool.not_true, Bool.not_false, reduceIte, Bool.not_eq_true', decide_eq_false_iff_not, hk]
    rw [List.getD_eq_getElem?_getD, List.getElem?_eq_none (by omega)]
    rfl

theorem mul_cell (c k : Int) (h : c.natAbs < 2 ^ 1048576) (hk : k.natAbs < 18446744073709551616) : D.mul (.int c) (.int k) = .ok (.int (c * k)) :=
  mul_big c k (Nat.lt_of_lt_of_le h (Nat.pow_le_pow_right (by decide) (by decide))) (big_pow hk (by decide))
theorem div_cell (c d : Int) (hd : 0 < d) (h : c.natAbs < 2 ^ 1048576) : (c / d).natAbs < 2 ^ 1048576 := Nat.lt_of_le_of_lt (ediv_abs c d hd) h
theorem cell_bd {ns : List Int} (hb : ∀ k ∈ ns, k.natAbs < 2 ^ 1048576) (i : Nat) : (ns.getD i 0).natAbs < 2 ^ 1048576 := by
  by_cases z : i < ns.length
  · rw [List.getD_eq_getElem?_getD, List.getElem?_eq_getElem z]; exact hb _ (List.getElem_mem z)
  · rw [List.getD_eq_getElem?_getD, List.getElem?_eq_none (by omega)]; exact Nat.pow_pos (by decide)
theorem big_sum {a b : Nat} (h : a < 2 ^ 1048576) (h' : b < 18446744073709551616) : a + b < 2 ^ 40000000 := by
  have hb : b < 2 ^ 1048576 := big_pow h' (by decide)
  have e : a + b < 2 ^ (1048576 + 1) := by
    rw [Nat.two_pow_succ]
    exact Nat.add_lt_add h hb
  exact Nat.lt_of_lt_of_le e (Nat.pow_le_pow_right (by decide) (by decide))
theorem mul_sum (c d k : Int) (h : c.natAbs < 2 ^ 1048576) (h' : d.natAbs < 18446744073709551616) (hk : k.natAbs < 18446744073709551616) : D.mul (.int (c + d)) (.int k) = .ok (.int ((c + d) * k)) :=
  mul_big (c + d) k (Nat.lt_of_le_of_lt (Int.natAbs_add_le c d) (big_sum h h')) (big_pow hk (by decide))

theorem e_sign (n : Int) : ∃ s, p__law_sign [.int n] = .ok (.str [s]) := by
  rw [u__law_sign]; unfold b__law_sign
  have hk := mod_bd n (b := 8) (by omega)
  have h6 := mod_bd (n / 8) (b := 6) (by omega)
  have h16 := mod_bd (n / 8) (b := 16) (by omega)
  have h93 := mod_bd (n / 8) (b := 93) (by omega)
  have z1 : ks_63cbdf.length = 93 := rfl
  simp -implicitDefEqProofs (disch := first | omega | (simp only [List.length_map, List.length_append, List.length_cons, List.length_nil, List.length_take, List.length_drop, repS_len, rngL_len, List.length_range, List.length_reverse]; done) | (simp only [List.length_map, List.length_append, List.length_cons, List.length_nil, List.length_take, List.length_drop, repS_len, rngL_len, List.length_range, List.length_reverse]; omega)) only [mVar_ev, mVarR_ev, getV_val, getR_val, getR_own, mC_ev, mOp_ev, mOpL_ev, mT_ev, asB_bl, mAnd_ev, mOr_ev, mNot_ev, mAndV_ev, mOrV_ev, mNotV_ev, mIf_ev, mNil_ev, mCons_ev, mTup_ev, mLst_ev, mCall_ev, mPn_ev, mPs_ev, asI_int, mSl_ev, mSlL_ev, asL_lst, asL_scr, asTp_tup, asSt_str, R_ite, mWalk_ev, mLe_ev, mNeg_ev, mSeq_ev, mSkip_ev, bind_rt, bind_rtL, bind_bk, bind_ct, bind_ex, bind_ite, lift_ok, lift_exc, lift_ite, mAsg_ev, mAsgL_ev, mDrop_ev, mRet_ev, mRetL_ev, mRetN_ev, mRetOwn_ev, getO_own, mIfS_ev, mSet1_ev, onO_own, onO_val, mAppend_ev, putO_own, mAsgG_ev, optSO_some, gSet_ev, gsNil_ev, gsCons_ev, obind_some, gTupM_1, gTupM_2, gTupM_3, gTupM_4, gTupM_5, gTupM_6, mFor_ev, retD_nx, retD_rt, retD_rtL, retD_ex, retD_ite, retLs_rtL, retLs_ex, retLs_ite, nth_zero, nth_succ, set_zero, set_succ, add_int, add_str, add_lst, lcat_lst, sub_int', neg_int', lt_int', le_int', gt_int', ge_int', mod_int', fdiv_int, mul_int', mul_str', isN_non, isN_int, notN_non, notN_int, eq_int', ne_int', eq_str', ne_str', eq_bl', ne_bl', len_str', len_lst, len_tup, len_scr, max_int, min_int, sl_str', sl_lst, sl_scr, lsl_lst, lsl_scr, ix_str', ix_lst, ix_tup', ix_scr, range1_ok, range2_ok, range3_ok, mMeth_ev, onStr_str, mComp_ev, mCh_ev, wipeE_nil, wipeE_cons, mYes_ev, int_int, int_bl, asW_lst, asW_tup, asW_scr, asW_str, lt_str', le_str', gt_str', ge_str', mRaise_ev, sum_ints, all_bls, any_bls, list_lst, list_tup, list_scr, sorted_ints', g_find_ev, g_find3_ev, g_find4_ev, g_rfind_ev, g_rfind4_ev, g_count_ev, g_count3_ev, g_count4_ev, g_startswith_ev, g_endswith_ev, Int.reduceToNat, List.getD_cons_zero, List.getD_cons_succ, List.length_map, List.length_reverse, Int.zero_mul, Int.mul_zero, Int.add_zero, Int.mul_one, nc0, nc1, nc2, nc3, nc4, nc5, nc6, nc7, nc8, nc9, nc10, nc11, nc12, nc13, List.cons_append, List.nil_append, decide_true, decide_false, not_false_eq_true, not_true_eq_false, mCallR_ev, retLE_rtL, retDE_rt, flatR_bl, flatR_int, flatR_str, flatR_non, flatR_exc, getOwn_own, mMut0_ev, mSetIx_ev, putIx_ok, rev_lst, lrep_ev, if_small, if_small', rngL_len, endS_nx, endS_rt, in_sign, notIn_sign, isN_str, notN_str, isN_tup, notN_tup, isi_int_int, isi_int_bool, isi_bl_bool, isi_bl_int, isi_str_str, isi_tup_tup, isi_lst_lst, isi_non_int, isi_non_tup, _root_.FL.R.ok_bind, _root_.FL.R.exc_bind, _root_.FL.R.stuck_bind, _root_.FL.R.pure_eq, List.append_nil, List.length_cons, List.length_nil, Nat.zero_add, Nat.reduceAdd, Nat.reduceLeDiff, Nat.reduceLT, and_self, and_true, true_and, nextK_nx, nextK_ct, nextK_bk, nextK_rt, nextK_rtL, nextK_ex, nextK_ite, decide_eq_true_eq, if_true, if_false, ite_true, ite_false, Bool.true_eq_false, Bool.false_eq_true, Bool.not_true, Bool.not_false, reduceIte, Bool.not_eq_true', decide_eq_false_iff_not]
  rw [bind_nx]
  simp -implicitDefEqProofs (disch := first | omega | (simp only [List.length_map, List.length_append, List.length_cons, List.length_nil, List.length_take, List.length_drop, repS_len, rngL_len, List.length_range, List.length_reverse]; done) | (simp only [List.length_map, List.length_append, List.length_cons, List.length_nil, List.length_take, List.length_drop, repS_len, rngL_len, List.length_range, List.length_reverse]; omega)) only [mVar_ev, mVarR_ev, getV_val, getR_val, getR_own, mC_ev, mOp_ev, mOpL_ev, mT_ev, asB_bl, mAnd_ev, mOr_ev, mNot_ev, mAndV_ev, mOrV_ev, mNotV_ev, mIf_ev, mNil_ev, mCons_ev, mTup_ev, mLst_ev, mCall_ev, mPn_ev, mPs_ev, asI_int, mSl_ev, mSlL_ev, asL_lst, asL_scr, asTp_tup, asSt_str, R_ite, mWalk_ev, mLe_ev, mNeg_ev, mSeq_ev, mSkip_ev, bind_rt, bind_rtL, bind_bk, bind_ct, bind_ex, bind_ite, lift_ok, lift_exc, lift_ite, mAsg_ev, mAsgL_ev, mDrop_ev, mRet_ev, mRetL_ev, mRetN_ev, mRetOwn_ev, getO_own, mIfS_ev, mSet1_ev, onO_own, onO_val, mAppend_ev, putO_own, mAsgG_ev, optSO_some, gSet_ev, gsNil_ev, gsCons_ev, obind_some, gTupM_1, gTupM_2, gTupM_3, gTupM_4, gTupM_5, gTupM_6, mFor_ev, retD_nx, retD_rt, retD_rtL, retD_ex, retD_ite, retLs_rtL, retLs_ex, retLs_ite, nth_zero, nth_succ, set_zero, set_succ, add_int, add_str, add_lst, lcat_lst, sub_int', neg_int', lt_int', le_int', gt_int', ge_int', mod_int', fdiv_int, mul_int', mul_str', isN_non, isN_int, notN_non, notN_int, eq_int', ne_int', eq_str', ne_str', eq_bl', ne_bl', len_str', len_lst, len_tup, len_scr, max_int, min_int, sl_str', sl_lst, sl_scr, lsl_lst, lsl_scr, ix_str', ix_lst, ix_tup', ix_scr, range1_ok, range2_ok, range3_ok, mMeth_ev, onStr_str, mComp_ev, mCh_ev, wipeE_nil, wipeE_cons, mYes_ev, int_int, int_bl, asW_lst, asW_tup, asW_scr, asW_str, lt_str', le_str', gt_str', ge_str', mRaise_ev, sum_ints, all_bls, any_bls, list_lst, list_tup, list_scr, sorted_ints', g_find_ev, g_find3_ev, g_find4_ev, g_rfind_ev, g_rfind4_ev, g_count_ev, g_count3_ev, g_count4_ev, g_startswith_ev, g_endswith_ev, Int.reduceToNat, List.getD_cons_zero, List.getD_cons_succ, List.length_map, List.length_reverse, Int.zero_mul, Int.mul_zero, Int.add_zero, Int.mul_one, nc0, nc1, nc2, nc3, nc4, nc5, nc6, nc7, nc8, nc9, nc10, nc11, nc12, nc13, List.cons_append, List.nil_append, decide_true, decide_false, not_false_eq_true, not_true_eq_false, mCallR_ev, retLE_rtL, retDE_rt, flatR_bl, flatR_int, flatR_str, flatR_non, flatR_exc, getOwn_own, mMut0_ev, mSetIx_ev, putIx_ok, rev_lst, lrep_ev, if_small, if_small', rngL_len, endS_nx, endS_rt, in_sign, notIn_sign, isN_str, notN_str, isN_tup, notN_tup, isi_int_int, isi_int_bool, isi_bl_bool, isi_bl_int, isi_str_str, isi_tup_tup, isi_lst_lst, isi_non_int, isi_non_tup, _root_.FL.R.ok_bind, _root_.FL.R.exc_bind, _root_.FL.R.stuck_bind, _root_.FL.R.pure_eq, List.append_nil, List.length_cons, List.length_nil, Nat.zero_add, Nat.reduceAdd, Nat.reduceLeDiff, Nat.reduceLT, and_self, and_true, true_and, nextK_nx, nextK_ct, nextK_bk, nextK_rt, nextK_rtL, nextK_ex, nextK_ite, decide_eq_true_eq, if_true, if_false, ite_true, ite_false, Bool.true_eq_false, Bool.false_eq_true, Bool.not_true, Bool.not_false, reduceIte, Bool.not_eq_true', decide_eq_false_iff_not]
  generalize n % 8 = k at *
  rw [bind_nx]
  by_cases q0 : k = 0
  · simp -implicitDefEqProofs (disch := first | omega | (simp only [List.length_map, List.length_append, List.length_cons, List.length_nil, List.length_take, List.length_drop, repS_len, rngL_len, List.length_range, List.length_reverse]; done) | (simp only [List.length_map, List.length_append, List.length_cons, List.length_nil, List.length_take, List.length_drop, repS_len, rngL_len, List.length_range, List.length_reverse]; omega)) only [mVar_ev, mVarR_ev, getV_val, getR_val, getR_own, mC_ev, mOp_ev, mOpL_ev, mT_ev, asB_bl, mAnd_ev, mOr_ev, mNot_ev, mAndV_ev, mOrV_ev, mNotV_ev, mIf_ev, mNil_ev, mCons_ev, mTup_ev, mLst_ev, mCall_ev, mPn_ev, mPs_ev, asI_int, mSl_ev, mSlL_ev, asL_lst, asL_scr, asTp_tup, asSt_str, R_ite, mWalk_ev, mLe_ev, mNeg_ev, mSeq_ev, mSkip_ev, bind_nx, bind_rt, bind_rtL, bind_bk, bind_ct, bind_ex, bind_ite, lift_ok, lift_exc, lift_ite, mAsg_ev, mAsgL_ev, mDrop_ev, mRet_ev, mRetL_ev, mRetN_ev, mRetOwn_ev, getO_own, mIfS_ev, mSet1_ev, onO_own, onO_val, mAppend_ev, putO_own, mAsgG_ev, optSO_some, gSet_ev, gsNil_ev, gsCons_ev, obind_some, gTupM_1, gTupM_2, gTupM_3, gTupM_4, gTupM_5, gTupM_6, mFor_ev, retD_nx, retD_rt, retD_rtL, retD_ex, retD_ite, retLs_rtL, retLs_ex, retLs_ite, nth_zero, nth_succ, set_zero, set_succ, add_int, add_str, add_lst, lcat_lst, sub_int', neg_int', lt_int', le_int', gt_int', ge_int', mod_int', fdiv_int, mul_int', mul_str', isN_non, isN_int, notN_non, notN_int, eq_int', ne_int', eq_str', ne_str', eq_bl', ne_bl', len_str', len_lst, len_tup, len_scr, max_int, min_int, sl_str', sl_lst, sl_scr, lsl_lst, lsl_scr, ix_str', ix_lst, ix_tup', ix_scr, range1_ok, range2_ok, range3_ok, mMeth_ev, onStr_str, mComp_ev, mCh_ev, wipeE_nil, wipeE_cons, mYes_ev, int_int, int_bl, asW_lst, asW_tup, asW_scr, asW_str, lt_str', le_str', gt_str', ge_str', mRaise_ev, sum_ints, all_bls, any_bls, list_lst, list_tup, list_scr, sorted_ints', g_find_ev, g_find3_ev, g_find4_ev, g_rfind_ev, g_rfind4_ev, g_count_ev, g_count3_ev, g_count4_ev, g_startswith_ev, g_endswith_ev, Int.reduceToNat, List.getD_cons_zero, List.getD_cons_succ, List.length_map, List.length_reverse, Int.zero_mul, Int.mul_zero, Int.add_zero, Int.mul_one, nc0, nc1, nc2, nc3, nc4, nc5, nc6, nc7, nc8, nc9, nc10, nc11, nc12, nc13, List.cons_append, List.nil_append, decide_true, decide_false, not_false_eq_true, not_true_eq_false, mCallR_ev, retLE_rtL, retDE_rt, flatR_bl, flatR_int, flatR_str, flatR_non, flatR_exc, getOwn_own, mMut0_ev, mSetIx_ev, putIx_ok, rev_lst, lrep_ev, if_small, if_small', rngL_len, endS_nx, endS_rt, in_sign, notIn_sign, isN_str, notN_str, isN_tup, notN_tup, isi_int_int, isi_int_bool, isi_bl_bool, isi_bl_int, isi_str_str, isi_tup_tup, isi_lst_lst, isi_non_int, isi_non_tup, _root_.FL.R.ok_bind, _root_.FL.R.exc_bind, _root_.FL.R.stuck_bind, _root_.FL.R.pure_eq, List.append_nil, List.length_cons, List.length_nil, Nat.zero_add, Nat.reduceAdd, Nat.reduceLeDiff, Nat.reduceLT, and_self, and_true, true_and, nextK_nx, nextK_ct, nextK_bk, nextK_rt, nextK_rtL, nextK_ex, nextK_ite, decide_eq_true_eq, if_true, if_false, ite_true, ite_false, Bool.true_eq_false, Bool.false_eq_true, Bool.not_true, Bool.not_false, reduceIte, Bool.not_eq_true', decide_eq_false_iff_not, q0]; exact ⟨_, rfl⟩
  by_cases q1 : k = 1
  · simp -implicitDefEqProofs (disch := first | omega | (simp only [List.length_map, List.length_append, List.length_cons, List.length_nil, List.length_take, List.length_drop, repS_len, rngL_len, List.length_range, List.length_reverse]; done) | (simp only [List.length_map, List.length_append, List.length_cons, List.length_nil, List.length_take, List.length_drop, repS_len, rngL_len, List.length_range, List.length_reverse]; omega)) only [mVar_ev, mVarR_ev, getV_val, getR_val, getR_own, mC_ev, mOp_ev, mOpL_ev, mT_ev, asB_bl, mAnd_ev, mOr_ev, mNot_ev, mAndV_ev, mOrV_ev, mNotV_ev, mIf_ev, mNil_ev, mCons_ev, mTup_ev, mLst_ev, mCall_ev, mPn_ev, mPs_ev, asI_int, mSl_ev, mSlL_ev, asL_lst, asL_scr, asTp_tup, asSt_str, R_ite, mWalk_ev, mLe_ev, mNeg_ev, mSeq_ev, mSkip_ev, bind_nx, bind_rt, bind_rtL, bind_bk, bind_ct, bind_ex, bind_ite, lift_ok, lift_exc, lift_ite, mAsg_ev, mAsgL_ev, mDrop_ev, mRet_ev, mRetL_ev, mRetN_ev, mRetOwn_ev, getO_own, mIfS_ev, mSet1_ev, onO_own, onO_val, mAppend_ev, putO_own, mAsgG_ev, optSO_some, gSet_ev, gsNil_ev, gsCons_ev, obind_some, gTupM_1, gTupM_2, gTupM_3, gTupM_4, gTupM_5, gTupM_6, mFor_ev, retD_nx, retD_rt, retD_rtL, retD_ex, retD_ite, retLs_rtL, retLs_ex, retLs_ite, nth_zero, nth_succ, set_zero, set_succ, add_int, add_str, add_lst, lcat_lst, sub_int', neg_int', lt_int', le_int', gt_int', ge_int', mod_int', fdiv_int, mul_int', mul_str', isN_non, isN_int, notN_non, notN_int, eq_int', ne_int', eq_str', ne_str', eq_bl', ne_bl', len_str', len_lst, len_tup, len_scr, max_int, min_int, sl_str', sl_lst, sl_scr, lsl_lst, lsl_scr, ix_str', ix_lst, ix_tup', ix_scr, range1_ok, range2_ok, range3_ok, mMeth_ev, onStr_str, mComp_ev, mCh_ev, wipeE_nil, wipeE_cons, mYes_ev, int_int, int_bl, asW_lst, asW_tup, asW_scr, asW_str, lt_str', le_str', gt_str', ge_str', mRaise_ev, sum_ints, all_bls, any_bls, list_lst, list_tup, list_scr, sorted_ints', g_find_ev, g_find3_ev, g_find4_ev, g_rfind_ev, g_rfind4_ev, g_count_ev, g_count3_ev, g_count4_ev, g_startswith_ev, g_endswith_ev, Int.reduceToNat, List.getD_cons_zero, List.getD_cons_succ, List.length_map, List.length_reverse, Int.zero_mul, Int.mul_zero, Int.add_zero, Int.mul_one, nc0, nc1, nc2, nc3, nc4, nc5, nc6, nc7, nc8, nc9, nc10, nc11, nc12, nc13, List.cons_append, List.nil_append, decide_true, decide_false, not_false_eq_true, not_true_eq_false, mCallR_ev, retLE_rtL, retDE_rt, flatR_bl, flatR_int, flatR_str, flatR_non, flatR_exc, getOwn_own, mMut0_ev, mSetIx_ev, putIx_ok, rev_lst, lrep_ev, if_small, if_small', rngL_len, endS_nx, endS_rt, in_sign, notIn_sign, isN_str, notN_str, isN_tup, notN_tup, isi_int_int, isi_int_bool, isi_bl_bool, isi_bl_int, isi_str_str, isi_tup_tup, isi_lst_lst, isi_non_int, isi_non_tup, _root_.FL.R.ok_bind, _root_.FL.R.exc_bind, _root_.FL.R.stuck_bind, _root_.FL.R.pure_eq, List.append_nil, List.length_cons, List.length_nil, Nat.zero_add, Nat.reduceAdd, Nat.reduceLeDiff, Nat.reduceLT, and_self, and_true, true_and, nextK_nx, nextK_ct, nextK_bk, nextK_rt, nextK_rtL, nextK_ex, nextK_ite, decide_eq_true_eq, if_true, if_false, ite_true, ite_false, Bool.true_eq_false, Bool.false_eq_true, Bool.not_true, Bool.not_false, reduceIte, Bool.not_eq_true', decide_eq_false_iff_not, q1]; exact ⟨_, rfl⟩
  by_cases q2 : k = 2
  · simp -implicitDefEqProofs (disch := first | omega | (simp only [List.length_map, List.length_append, List.length_cons, List.length_nil, List.length_take, List.length_drop, repS_len, rngL_len, List.length_range, List.length_reverse]; done) | (simp only [List.length_map, List.length_append, List.length_cons, List.length_nil, List.length_take, List.length_drop, repS_len, rngL_len, List.length_range, List.length_reverse]; omega)) only [mVar_ev, mVarR_ev, getV_val, getR_val, getR_own, mC_ev, mOp_ev, mOpL_ev, mT_ev, asB_bl, mAnd_ev, mOr_ev, mNot_ev, mAndV_ev, mOrV_ev, mNotV_ev, mIf_ev, mNil_ev, mCons_ev, mTup_ev, mLst_ev, mCall_ev, mPn_ev, mPs_ev, asI_int, mSl_ev, mSlL_ev, asL_lst, asL_scr, asTp_tup, asSt_str, R_ite, mWalk_ev, mLe_ev, mNeg_ev, mSeq_ev, mSkip_ev, bind_nx, bind_rt, bind_rtL, bind_bk, bind_ct, bind_ex, bind_ite, lift_ok, lift_exc, lift_ite, mAsg_ev, mAsgL_ev, mDrop_ev, mRet_ev, mRetL_ev, mRetN_ev, mRetOwn_ev, getO_own, mIfS_ev, mSet1_ev, onO_own, onO_val, mAppend_ev, putO_own, mAsgG_ev, optSO_some, gSet_ev, gsNil_ev, gsCons_ev, obind_some, gTupM_1, gTupM_2, gTupM_3, gTupM_4, gTupM_5, gTupM_6, mFor_ev, retD_nx, retD_rt, retD_rtL, retD_ex, retD_ite, retLs_rtL, retLs_ex, retLs_ite, nth_zero, nth_succ, set_zero, set_succ, add_int, add_str, add_lst, lcat_lst, sub_int', neg_int', lt_int', le_int', gt_int', ge_int', mod_int', fdiv_int, mul_int', mul_str', isN_non, isN_int, notN_non, notN_int, eq_int', ne_int', eq_str', ne_str', eq_bl', ne_bl', len_str', len_lst, len_tup, len_scr, max_int, min_int, sl_str', sl_lst, sl_scr, lsl_lst, lsl_scr, ix_str', ix_lst, ix_tup', ix_scr, range1_ok, range2_ok, range3_ok, mMeth_ev, onStr_str, mComp_ev, mCh_ev, wipeE_nil, wipeE_cons, mYes_ev, int_int, int_bl, asW_lst, asW_tup, asW_scr, asW_str, lt_str', le_str', gt_str', ge_str', mRaise_ev, sum_ints, all_bls, any_bls, list_lst, list_tup, list_scr, sorted_ints', g_find_ev, g_find3_ev, g_find4_ev, g_rfind_ev, g_rfind4_ev, g_count_ev, g_count3_ev, g_count4_ev, g_startswith_ev, g_endswith_ev, Int.reduceToNat, List.getD_cons_zero, List.getD_cons_succ, List.length_map, List.length_reverse, Int.zero_mul, Int.mul_zero, Int.add_zero, Int.mul_one, nc0, nc1, nc2, nc3, nc4, nc5, nc6, nc7, nc8, nc9, nc10, nc11, nc12, nc13, List.cons_append, List.nil_append, decide_true, decide_false, not_false_eq_true, not_true_eq_false, mCallR_ev, retLE_rtL, retDE_rt, flatR_bl, flatR_int, flatR_str, flatR_non, flatR_exc, getOwn_own, mMut0_ev, mSetIx_ev, putIx_ok, rev_lst, lrep_ev, if_small, if_small', rngL_len, endS_nx, endS_rt, in_sign, notIn_sign, isN_str, notN_str, isN_tup, notN_tup, isi_int_int, isi_int_bool, isi_bl_bool, isi_bl_int, isi_str_str, isi_tup_tup, isi_lst_lst, isi_non_int, isi_non_tup, _root_.FL.R.ok_bind, _root_.FL.R.exc_bind, _root_.FL.R.stuck_bind, _root_.FL.R.pure_eq, List.append_nil, List.length_cons, List.length_nil, Nat.zero_add, Nat.reduceAdd, Nat.reduceLeDiff, Nat.reduceLT, and_self, and_true, true_and, nextK_nx, nextK_ct, nextK_bk, nextK_rt, nextK_rtL, nextK_ex, nextK_ite, decide_eq_true_eq, if_true, if_false, ite_true, ite_false, Bool.true_eq_false, Bool.false_eq_true, Bool.not_true, Bool.not_false, reduceIte, Bool.not_eq_true', decide_eq_false_iff_not, q2]; exact ⟨_, rfl⟩
  by_cases q3 : k < 6
  · simp -implicitDefEqProofs (disch := first | omega | (simp only [List.length_map, List.length_append, List.length_cons, List.length_nil, List.length_take, List.length_drop, repS_len, rngL_len, List.length_range, List.length_reverse]; done) | (simp only [List.length_map, List.length_append, List.length_cons, List.length_nil, List.length_take, List.length_drop, repS_len, rngL_len, List.length_range, List.length_reverse]; omega)) only [mVar_ev, mVarR_ev, getV_val, getR_val, getR_own, mC_ev, mOp_ev, mOpL_ev, mT_ev, asB_bl, mAnd_ev, mOr_ev, mNot_ev, mAndV_ev, mOrV_ev, mNotV_ev, mIf_ev, mNil_ev, mCons_ev, mTup_ev, mLst_ev, mCall_ev, mPn_ev, mPs_ev, asI_int, mSl_ev, mSlL_ev, asL_lst, asL_scr, asTp_tup, asSt_str, R_ite, mWalk_ev, mLe_ev, mNeg_ev, mSeq_ev, mSkip_ev, bind_nx, bind_rt, bind_rtL, bind_bk, bind_ct, bind_ex, bind_ite, lift_ok, lift_exc, lift_ite, mAsg_ev, mAsgL_ev, mDrop_ev, mRet_ev, mRetL_ev, mRetN_ev, mRetOwn_ev, getO_own, mIfS_ev, mSet1_ev, onO_own, onO_val, mAppend_ev, putO_own, mAsgG_ev, optSO_some, gSet_ev, gsNil_ev, gsCons_ev, obind_some, gTupM_1, gTupM_2, gTupM_3, gTupM_4, gTupM_5, gTupM_6, mFor_ev, retD_nx, retD_rt, retD_rtL, retD_ex, retD_ite, retLs_rtL, retLs_ex, retLs_ite, nth_zero, nth_succ, set_zero, set_succ, add_int, add_str, add_lst, lcat_lst, sub_int', neg_int', lt_int', le_int', gt_int', ge_int', mod_int', fdiv_int, mul_int', mul_str', isN_non, isN_int, notN_non, notN_int, eq_int', ne_int', eq_str', ne_str', eq_bl', ne_bl', len_str', len_lst, len_tup, len_scr, max_int, min_int, sl_str', sl_lst, sl_scr, lsl_lst, lsl_scr, ix_str', ix_lst, ix_tup', ix_scr, range1_ok, range2_ok, range3_ok, mMeth_ev, onStr_str, mComp_ev, mCh_ev, wipeE_nil, wipeE_cons, mYes_ev, int_int, int_bl, asW_lst, asW_tup, asW_scr, asW_str, lt_str', le_str', gt_str', ge_str', mRaise_ev, sum_ints, all_bls, any_bls, list_lst, list_tup, list_scr, sorted_ints', g_find_ev, g_find3_ev, g_find4_ev, g_rfind_ev, g_rfind4_ev, g_count_ev, g_count3_ev, g_count4_ev, g_startswith_ev, g_endswith_ev, Int.reduceToNat, List.getD_cons_zero, List.getD_cons_succ, List.length_map, List.length_reverse, Int.zero_mul, Int.mul_zero, Int.add_zero, Int.mul_one, nc0, nc1, nc2, nc3, nc4, nc5, nc6, nc7, nc8, nc9, nc10, nc11, nc12, nc13, List.cons_append, List.nil_append, decide_true, decide_false, not_false_eq_true, not_true_eq_false, mCallR_ev, retLE_rtL, retDE_rt, flatR_bl, flatR_int, flatR_str, flatR_non, flatR_exc, getOwn_own, mMut0_ev, mSetIx_ev, putIx_ok, rev_lst, lrep_ev, if_small, if_small', rngL_len, endS_nx, endS_rt, in_sign, notIn_sign, isN_str, notN_str, isN_tup, notN_tup, isi_int_int, isi_int_bool, isi_bl_bool, isi_bl_int, isi_str_str, isi_tup_tup, isi_lst_lst, isi_non_int, isi_non_tup, _root_.FL.R.ok_bind, _root_.FL.R.exc_bind, _root_.FL.R.stuck_bind, _root_.FL.R.pure_eq, List.append_nil, List.length_cons, List.length_nil, Nat.zero_add, Nat.reduceAdd, Nat.reduceLeDiff, Nat.reduceLT, and_self, and_true, true_and, nextK_nx, nextK_ct, nextK_bk, nextK_rt, nextK_rtL, nextK_ex, nextK_ite, decide_eq_true_eq, if_true, if_false, ite_true, ite_false, Bool.true_eq_false, Bool.false_eq_true, Bool.not_true, Bool.not_false, reduceIte, Bool.not_eq_true', decide_eq_false_iff_not, q0, q1, q2, q3]; exact ⟨_, rfl⟩
  · simp -implicitDefEqProofs (disch := first | omega | (simp only [List.length_map, List.length_append, List.length_cons, List.length_nil, List.length_take, List.length_drop, repS_len, rngL_len, List.length_range, List.length_reverse]; done) | (simp only [List.length_map, List.length_append, List.length_cons, List.length_nil, List.length_take, List.length_drop, repS_len, rngL_len, List.length_range, List.length_reverse]; omega)) only [mVar_ev, mVarR_ev, getV_val, getR_val, getR_own, mC_ev, mOp_ev, mOpL_ev, mT_ev, asB_bl, mAnd_ev, mOr_ev, mNot_ev, mAndV_ev, mOrV_ev, mNotV_ev, mIf_ev, mNil_ev, mCons_ev, mTup_ev, mLst_ev, mCall_ev, mPn_ev, mPs_ev, asI_int, mSl_ev, mSlL_ev, asL_lst, asL_scr, asTp_tup, asSt_str, R_ite, mWalk_ev, mLe_ev, mNeg_ev, mSeq_ev, mSkip_ev, bind_nx, bind_rt, bind_rtL, bind_bk, bind_ct, bind_ex, bind_ite, lift_ok, lift_exc, lift_ite, mAsg_ev, mAsgL_ev, mDrop_ev, mRet_ev, mRetL_ev, mRetN_ev, mRetOwn_ev, getO_own, mIfS_ev, mSet1_ev, onO_own, onO_val, mAppend_ev, putO_own, mAsgG_ev, optSO_some, gSet_ev, gsNil_ev, gsCons_ev, obind_some, gTupM_1, gTupM_2, gTupM_3, gTupM_4, gTupM_5, gTupM_6, mFor_ev, retD_nx, retD_rt, retD_rtL, retD_ex, retD_ite, retLs_rtL, retLs_ex, retLs_ite, nth_zero, nth_succ, set_zero, set_succ, add_int, add_str, add_lst, lcat_lst, sub_int', neg_int', lt_int', le_int', gt_int', ge_int', mod_int', fdiv_int, mul_int', mul_str', isN_non, isN_int, notN_non, notN_int, eq_int', ne_int', eq_str', ne_str', eq_bl', ne_bl', len_str', len_lst, len_tup, len_scr, max_int, min_int, sl_str', sl_lst, sl_scr, lsl_lst, lsl_scr, ix_str', ix_lst, ix_tup', ix_scr, range1_ok, range2_ok, range3_ok, mMeth_ev, onStr_str, mComp_ev, mCh_ev, wipeE_nil, wipeE_cons, mYes_ev, int_int, int_bl, asW_lst, asW_tup, asW_scr, asW_str, lt_str', le_str', gt_str', ge_str', mRaise_ev, sum_ints, all_bls, any_bls, list_lst, list_tup, list_scr, sorted_ints', g_find_ev, g_find3_ev, g_find4_ev, g_rfind_ev, g_rfind4_ev, g_count_ev, g_count3_ev, g_count4_ev, g_startswith_ev, g_endswith_ev, Int.reduceToNat, List.getD_cons_zero, List.getD_cons_succ, List.length_map, List.length_reverse, Int.zero_mul, Int.mul_zero, Int.add_zero, Int.mul_one, nc0, nc1, nc2, nc3, nc4, nc5, nc6, nc7, nc8, nc9, nc10, nc11, nc12, nc13, List.cons_append, List.nil_append, decide_true, decide_false, not_false_eq_true, not_true_eq_false, mCallR_ev, retLE_rtL, retDE_rt, flatR_bl, flatR_int, flatR_str, flatR_non, flatR_exc, getOwn_own, mMut0_ev, mSetIx_ev, putIx_ok, rev_lst, lrep_ev, if_small, if_small', rngL_len, endS_nx, endS_rt, in_sign, notIn_sign, isN_str, notN_str, isN_tup, notN_tup, isi_int_int, isi_int_bool, isi_bl_bool, isi_bl_int, isi_str_str, isi_tup_tup, isi_lst_lst, isi_non_int, isi_non_tup, _root_.FL.R.ok_bind, _root_.FL.R.exc_bind, _root_.FL.R.stuck_bind, _root_.FL.R.pure_eq, List.append_nil, List.length_cons, List.length_nil, Nat.zero_add, Nat.reduceAdd, Nat.reduceLeDiff, Nat.reduceLT, and_self, and_true, true_and, nextK_nx, nextK_ct, nextK_bk, nextK_rt, nextK_rtL, nextK_ex, nextK_ite, decide_eq_true_eq, if_true, if_false, ite_true, ite_false, Bool.true_eq_false, Bool.false_eq_true, Bool.not_true, Bool.not_false, reduceIte, Bool.not_eq_true', decide_eq_false_iff_not, q0, q1, q2, q3]; exact ⟨_, rfl⟩
/-- a comprehension whose turns tell signs -/
theorem compL_ex {t : D → R (Option D)} : ∀ {xs : List Int}, (∀ x ∈ xs, ∃ s, t (.int x) = .ok (some (.str [s]))) → ∃ ys : List Nat, ys.length = xs.length ∧ compL t (xs.map D.int) = .ok (ys.map fun c => D.str [c])
  | [], _ => ⟨[], rfl, rfl⟩
  | x :: xs, h => by
    obtain ⟨s, hs⟩ := h x (List.mem_cons_self ..)
    obtain ⟨ys, h1, h2⟩ := compL_ex fun y hy => h y (List.mem_cons_of_mem _ hy)
    refine ⟨s :: ys, by simp [h1], ?_⟩
    show (t (.int x) >>= fun o => compL t (xs.map D.int) >>= fun r => R.ok (match o with | some y => y :: r | none => r)) = _
    rw [hs, h2]; rfl
theorem e_text (ns : List Int) (h : ns.length ≤ 63) : ∃ T : List Nat, p__law_text [.scr ns] = .ok (.str T) ∧ T.length ≤ 600 := by
  rw [u__law_text]; unfold b__law_text
  have hc := cut_len ns (some 2) (some 62)
  have hc2 : (cutL ns (some 2) (some 62)).length ≤ 60 := by rw [cut_int _ _ _ (by decide) (by decide), List.length_take, List.length_drop]; omega
  simp -implicitDefEqProofs (disch := first | omega | (simp only [List.length_map, List.length_append, List.length_cons, List.length_nil, List.length_take, List.length_drop, repS_len, rngL_len, List.length_range, List.length_reverse]; done) | (simp only [List.length_map, List.length_append, List.length_cons, List.length_nil, List.length_take, List.length_drop, repS_len, rngL_len, List.length_range, List.length_reverse]; omega)) only [mVar_ev, mVarR_ev, getV_val, getR_val, getR_own, mC_ev, mOp_ev, mOpL_ev, mT_ev, asB_bl, mAnd_ev, mOr_ev, mNot_ev, mAndV_ev, mOrV_ev, mNotV_ev, mIf_ev, mNil_ev, mCons_ev, mTup_ev, mLst_ev, mCall_ev, mPn_ev, mPs_ev, asI_int, mSl_ev, mSlL_ev, asL_lst, asL_scr, asTp_tup, asSt_str, R_ite, mWalk_ev, mLe_ev, mNeg_ev, mSeq_ev, mSkip_ev, bind_rt, bind_rtL, bind_bk, bind_ct, bind_ex, bind_ite, lift_ok, lift_exc, lift_ite, mAsg_ev, mAsgL_ev, mDrop_ev, mRet_ev, mRetL_ev, mRetN_ev, mRetOwn_ev, getO_own, mIfS_ev, mSet1_ev, onO_own, onO_val, mAppend_ev, putO_own, mAsgG_ev, optSO_some, gSet_ev, gsNil_ev, gsCons_ev, obind_some, gTupM_1, gTupM_2, gTupM_3, gTupM_4, gTupM_5, gTupM_6, mFor_ev, retD_nx, retD_rt, retD_rtL, retD_ex, retD_ite, retLs_rtL, retLs_ex, retLs_ite, nth_zero, nth_succ, set_zero, set_succ, add_int, add_str, add_lst, lcat_lst, sub_int', neg_int', lt_int', le_int', gt_int', ge_int', mod_int', fdiv_int, mul_int', mul_str', isN_non, isN_int, notN_non, notN_int, eq_int', ne_int', eq_str', ne_str', eq_bl', ne_bl', len_str', len_lst, len_tup, len_scr, max_int, min_int, sl_str', sl_lst, sl_scr, lsl_lst, lsl_scr, ix_str', ix_lst, ix_tup', ix_scr, range1_ok, range2_ok, range3_ok, mMeth_ev, onStr_str, mComp_ev, mCh_ev, wipeE_nil, wipeE_cons, mYes_ev, int_int, int_bl, asW_lst, asW_tup, asW_scr, asW_str, lt_str', le_str', gt_str', ge_str', mRaise_ev, sum_ints, all_bls, any_bls, list_lst, list_tup, list_scr, sorted_ints', g_find_ev, g_find3_ev, g_find4_ev, g_rfind_ev, g_rfind4_ev, g_count_ev, g_count3_ev, g_count4_ev, g_startswith_ev, g_endswith_ev, Int.reduceToNat, List.getD_cons_zero, List.getD_cons_succ, List.length_map, List.length_reverse, Int.zero_mul, Int.mul_zero, Int.add_zero, Int.mul_one, nc0, nc1, nc2, nc3, nc4, nc5, nc6, nc7, nc8, nc9, nc10, nc11, nc12, nc13, List.cons_append, List.nil_append, decide_true, decide_false, not_false_eq_true, not_true_eq_false, mCallR_ev, retLE_rtL, retDE_rt, flatR_bl, flatR_int, flatR_str, flatR_non, flatR_exc, getOwn_own, mMut0_ev, mSetIx_ev, putIx_ok, rev_lst, lrep_ev, if_small, if_small', rngL_len, endS_nx, endS_rt, in_sign, notIn_sign, isN_str, notN_str, isN_tup, notN_tup, isi_int_int, isi_int_bool, isi_bl_bool, isi_bl_int, isi_str_str, isi_tup_tup, isi_lst_lst, isi_non_int, isi_non_tup, _root_.FL.R.ok_bind, _root_.FL.R.exc_bind, _root_.FL.R.stuck_bind, _root_.FL.R.pure_eq, List.append_nil, List.length_cons, List.length_nil, Nat.zero_add, Nat.reduceAdd, Nat.reduceLeDiff, Nat.reduceLT, and_self, and_true, true_and, nextK_nx, nextK_ct, nextK_bk, nextK_rt, nextK_rtL, nextK_ex, nextK_ite, decide_eq_true_eq, if_true, if_false, ite_true, ite_false, Bool.true_eq_false, Bool.false_eq_true, Bool.not_true, Bool.not_false, reduceIte, Bool.not_eq_true', decide_eq_false_iff_not]
  generalize cutL ns (some 2) (some 62) = cs at *
  obtain ⟨ys, hl, hy⟩ := compL_ex (t := turnC (gSet 3) mYes b__law_text_c1 [.val (.scr ns), .no, .no, .no]) (xs := cs) fun x _ => by
    obtain ⟨s, hs⟩ := e_sign x
    refine ⟨s, turnC_some (gSet_ev _) rfl ?_⟩
    unfold b__law_text_c1
    simp -implicitDefEqProofs (disch := first | omega | (simp only [List.length_map, List.length_append, List.length_cons, List.length_nil, List.length_take, List.length_drop, repS_len, rngL_len, List.length_range, List.length_reverse]; done) | (simp only [List.length_map, List.length_append, List.length_cons, List.length_nil, List.length_take, List.length_drop, repS_len, rngL_len, List.length_range, List.length_reverse]; omega)) only [mVar_ev, mVarR_ev, getV_val, getR_val, getR_own, mC_ev, mOp_ev, mOpL_ev, mT_ev, asB_bl, mAnd_ev, mOr_ev, mNot_ev, mAndV_ev, mOrV_ev, mNotV_ev, mIf_ev, mNil_ev, mCons_ev, mTup_ev, mLst_ev, mCall_ev, mPn_ev, mPs_ev, asI_int, mSl_ev, mSlL_ev, asL_lst, asL_scr, asTp_tup, asSt_str, R_ite, mWalk_ev, mLe_ev, mNeg_ev, mSeq_ev, mSkip_ev, bind_nx, bind_rt, bind_rtL, bind_bk, bind_ct, bind_ex, bind_ite, lift_ok, lift_exc, lift_ite, mAsg_ev, mAsgL_ev, mDrop_ev, mRet_ev, mRetL_ev, mRetN_ev, mRetOwn_ev, getO_own, mIfS_ev, mSet1_ev, onO_own, onO_val, mAppend_ev, putO_own, mAsgG_ev, optSO_some, gSet_ev, gsNil_ev, gsCons_ev, obind_some, gTupM_1, gTupM_2, gTupM_3, gTupM_4, gTupM_5, gTupM_6, mFor_ev, retD_nx, retD_rt, retD_rtL, retD_ex, retD_ite, retLs_rtL, retLs_ex, retLs_ite, nth_zero, nth_succ, set_zero, set_succ, add_int, add_str, add_lst, lcat_lst, sub_int', neg_int', lt_int', le_int', gt_int', ge_int', mod_int', fdiv_int, mul_int', mul_str', isN_non, isN_int, notN_non, notN_int, eq_int', ne_int', eq_str', ne_str', eq_bl', ne_bl', len_str', len_lst, len_tup, len_scr, max_int, min_int, sl_str', sl_lst, sl_scr, lsl_lst, lsl_scr, ix_str', ix_lst, ix_tup', ix_scr, range1_ok, range2_ok, range3_ok, mMeth_ev, onStr_str, mComp_ev, mCh_ev, wipeE_nil, wipeE_cons, mYes_ev, int_int, int_bl, asW_lst, asW_tup, asW_scr, asW_str, lt_str', le_str', gt_str', ge_str', mRaise_ev, sum_ints, all_bls, any_bls, list_lst, list_tup, list_scr, sorted_ints', g_find_ev, g_find3_ev, g_find4_ev, g_rfind_ev, g_rfind4_ev, g_count_ev, g_count3_ev, g_count4_ev, g_startswith_ev, g_endswith_ev, Int.reduceToNat, List.getD_cons_zero, List.getD_cons_succ, List.length_map, List.length_reverse, Int.zero_mul, Int.mul_zero, Int.add_zero, Int.mul_one, nc0, nc1, nc2, nc3, nc4, nc5, nc6, nc7, nc8, nc9, nc10, nc11, nc12, nc13, List.cons_append, List.nil_append, decide_true, decide_false, not_false_eq_true, not_true_eq_false, mCallR_ev, retLE_rtL, retDE_rt, flatR_bl, flatR_int, flatR_str, flatR_non, flatR_exc, getOwn_own, mMut0_ev, mSetIx_ev, putIx_ok, rev_lst, lrep_ev, if_small, if_small', rngL_len, endS_nx, endS_rt, in_sign, notIn_sign, isN_str, notN_str, isN_tup, notN_tup, isi_int_int, isi_int_bool, isi_bl_bool, isi_bl_int, isi_str_str, isi_tup_tup, isi_lst_lst, isi_non_int, isi_non_tup, _root_.FL.R.ok_bind, _root_.FL.R.exc_bind, _root_.FL.R.stuck_bind, _root_.FL.R.pure_eq, List.append_nil, List.length_cons, List.length_nil, Nat.zero_add, Nat.reduceAdd, Nat.reduceLeDiff, Nat.reduceLT, and_self, and_true, true_and, nextK_nx, nextK_ct, nextK_bk, nextK_rt, nextK_rtL, nextK_ex, nextK_ite, decide_eq_true_eq, if_true, if_false, ite_true, ite_false, Bool.true_eq_false, Bool.false_eq_true, Bool.not_true, Bool.not_false, reduceIte, Bool.not_eq_true', decide_eq_false_iff_not, hs]
  simp -implicitDefEqProofs (disch := first | omega | (simp only [List.length_map, List.length_append, List.length_cons, List.length_nil, List.length_take, List.length_drop, repS_len, rngL_len, List.length_range, List.length_reverse]; done) | (simp only [List.length_map, List.length_append, List.length_cons, List.length_nil, List.length_take, List.length_drop, repS_len, rngL_len, List.length_range, List.length_reverse]; omega)) only [mVar_ev, mVarR_ev, getV_val, getR_val, getR_own, mC_ev, mOp_ev, mOpL_ev, mT_ev, asB_bl, mAnd_ev, mOr_ev, mNot_ev, mAndV_ev, mOrV_ev, mNotV_ev, mIf_ev, mNil_ev, mCons_ev, mTup_ev, mLst_ev, mCall_ev, mPn_ev, mPs_ev, asI_int, mSl_ev, mSlL_ev, asL_lst, asL_scr, asTp_tup, asSt_str, R_ite, mWalk_ev, mLe_ev, mNeg_ev, mSeq_ev, mSkip_ev, bind_rt, bind_rtL, bind_bk, bind_ct, bind_ex, bind_ite, lift_ok, lift_exc, lift_ite, mAsg_ev, mAsgL_ev, mDrop_ev, mRet_ev, mRetL_ev, mRetN_ev, mRetOwn_ev, getO_own, mIfS_ev, mSet1_ev, onO_own, onO_val, mAppend_ev, putO_own, mAsgG_ev, optSO_some, gSet_ev, gsNil_ev, gsCons_ev, obind_some, gTupM_1, gTupM_2, gTupM_3, gTupM_4, gTupM_5, gTupM_6, mFor_ev, retD_nx, retD_rt, retD_rtL, retD_ex, retD_ite, retLs_rtL, retLs_ex, retLs_ite, nth_zero, nth_succ, set_zero, set_succ, add_int, add_str, add_lst, lcat_lst, sub_int', neg_int', lt_int', le_int', gt_int', ge_int', mod_int', fdiv_int, mul_int', mul_str', isN_non, isN_int, notN_non, notN_int, eq_int', ne_int', eq_str', ne_str', eq_bl', ne_bl', len_str', len_lst, len_tup, len_scr, max_int, min_int, sl_str', sl_lst, sl_scr, lsl_lst, lsl_scr, ix_str', ix_lst, ix_tup', ix_scr, range1_ok, range2_ok, range3_ok, mMeth_ev, onStr_str, mComp_ev, mCh_ev, wipeE_nil, wipeE_cons, mYes_ev, int_int, int_bl, asW_lst, asW_tup, asW_scr, asW_str, lt_str', le_str', gt_str', ge_str', mRaise_ev, sum_ints, all_bls, any_bls, list_lst, list_tup, list_scr, sorted_ints', g_find_ev, g_find3_ev, g_find4_ev, g_rfind_ev, g_rfind4_ev, g_count_ev, g_count3_ev, g_count4_ev, g_startswith_ev, g_endswith_ev, Int.reduceToNat, List.getD_cons_zero, List.getD_cons_succ, List.length_map, List.length_reverse, Int.zero_mul, Int.mul_zero, Int.add_zero, Int.mul_one, nc0, nc1, nc2, nc3, nc4, nc5, nc6, nc7, nc8, nc9, nc10, nc11, nc12, nc13, List.cons_append, List.nil_append, decide_true, decide_false, not_false_eq_true, not_true_eq_false, mCallR_ev, retLE_rtL, retDE_rt, flatR_bl, flatR_int, flatR_str, flatR_non, flatR_exc, getOwn_own, mMut0_ev, mSetIx_ev, putIx_ok, rev_lst, lrep_ev, if_small, if_small', rngL_len, endS_nx, endS_rt, in_sign, notIn_sign, isN_str, notN_str, isN_tup, notN_tup, isi_int_int, isi_int_bool, isi_bl_bool, isi_bl_int, isi_str_str, isi_tup_tup, isi_lst_lst, isi_non_int, isi_non_tup, _root_.FL.R.ok_bind, _root_.FL.R.exc_bind, _root_.FL.R.stuck_bind, _root_.FL.R.pure_eq, List.append_nil, List.length_cons, List.length_nil, Nat.zero_add, Nat.reduceAdd, Nat.reduceLeDiff, Nat.reduceLT, and_self, and_true, true_and, nextK_nx, nextK_ct, nextK_bk, nextK_rt, nextK_rtL, nextK_ex, nextK_ite, decide_eq_true_eq, if_true, if_false, ite_true, ite_false, Bool.true_eq_false, Bool.false_eq_true, Bool.not_true, Bool.not_false, reduceIte, Bool.not_eq_true', decide_eq_false_iff_not, hy]
  rw [bind_nx]
  simp -implicitDefEqProofs (disch := first | omega | (simp only [List.length_map, List.length_append, List.length_cons, List.length_nil, List.length_take, List.length_drop, repS_len, rngL_len, List.length_range, List.length_reverse]; done) | (simp only [List.length_map, List.length_append, List.length_cons, List.length_nil, List.length_take, List.length_drop, repS_len, rngL_len, List.length_range, List.length_reverse]; omega)) only [mVar_ev, mVarR_ev, getV_val, getR_val, getR_own, mC_ev, mOp_ev, mOpL_ev, mT_ev, asB_bl, mAnd_ev, mOr_ev, mNot_ev, mAndV_ev, mOrV_ev, mNotV_ev, mIf_ev, mNil_ev, mCons_ev, mTup_ev, mLst_ev, mCall_ev, mPn_ev, mPs_ev, asI_int, mSl_ev, mSlL_ev, asL_lst, asL_scr, asTp_tup, asSt_str, R_ite, mWalk_ev, mLe_ev, mNeg_ev, mSeq_ev, mSkip_ev, bind_rt, bind_rtL, bind_bk, bind_ct, bind_ex, bind_ite, lift_ok, lift_exc, lift_ite, mAsg_ev, mAsgL_ev, mDrop_ev, mRet_ev, mRetL_ev, mRetN_ev, mRetOwn_ev, getO_own, mIfS_ev, mSet1_ev, onO_own, onO_val, mAppend_ev, putO_own, mAsgG_ev, optSO_some, gSet_ev, gsNil_ev, gsCons_ev, obind_some, gTupM_1, gTupM_2, gTupM_3, gTupM_4, gTupM_5, gTupM_6, mFor_ev, retD_nx, retD_rt, retD_rtL, retD_ex, retD_ite, retLs_rtL, retLs_ex, retLs_ite, nth_zero, nth_succ, set_zero, set_succ, add_int, add_str, add_lst, lcat_lst, sub_int', neg_int', lt_int', le_int', gt_int', ge_int', mod_int', fdiv_int, mul_int', mul_str', isN_non, isN_int, notN_non, notN_int, eq_int', ne_int', eq_str', ne_str', eq_bl', ne_bl', len_str', len_lst, len_tup, len_scr, max_int, min_int, sl_str', sl_lst, sl_scr, lsl_lst, lsl_scr, ix_str', ix_lst, ix_tup', ix_scr, range1_ok, range2_ok, range3_ok, mMeth_ev, onStr_str, mComp_ev, mCh_ev, wipeE_nil, wipeE_cons, mYes_ev, int_int, int_bl, asW_lst, asW_tup, asW_scr, asW_str, lt_str', le_str', gt_str', ge_str', mRaise_ev, sum_ints, all_bls, any_bls, list_lst, list_tup, list_scr, sorted_ints', g_find_ev, g_find3_ev, g_find4_ev, g_rfind_ev, g_rfind4_ev, g_count_ev, g_count3_ev, g_count4_ev, g_startswith_ev, g_endswith_ev, Int.reduceToNat, List.getD_cons_zero, List.getD_cons_succ, List.length_map, List.length_reverse, Int.zero_mul, Int.mul_zero, Int.add_zero, Int.mul_one, nc0, nc1, nc2, nc3, nc4, nc5, nc6, nc7, nc8, nc9, nc10, nc11, nc12, nc13, List.cons_append, List.nil_append, decide_true, decide_false, not_false_eq_true, not_true_eq_false, mCallR_ev, retLE_rtL, retDE_rt, flatR_bl, flatR_int, flatR_str, flatR_non, flatR_exc, getOwn_own, mMut0_ev, mSetIx_ev, putIx_ok, rev_lst, lrep_ev, if_small, if_small', rngL_len, endS_nx, endS_rt, in_sign, notIn_sign, isN_str, notN_str, isN_tup, notN_tup, isi_int_int, isi_int_bool, isi_bl_bool, isi_bl_int, isi_str_str, isi_tup_tup, isi_lst_lst, isi_non_int, isi_non_tup, _root_.FL.R.ok_bind, _root_.FL.R.exc_bind, _root_.FL.R.stuck_bind, _root_.FL.R.pure_eq, List.append_nil, List.length_cons, List.length_nil, Nat.zero_add, Nat.reduceAdd, Nat.reduceLeDiff, Nat.reduceLT, and_self, and_true, true_and, nextK_nx, nextK_ct, nextK_bk, nextK_rt, nextK_rtL, nextK_ex, nextK_ite, decide_eq_true_eq, if_true, if_false, ite_true, ite_false, Bool.true_eq_false, Bool.false_eq_true, Bool.not_true, Bool.not_false, reduceIte, Bool.not_eq_true', decide_eq_false_iff_not, join_signs, List.length_map]
  rw [bind_nx]
  by_cases q : ns.getD 0 0 % 5 = 1
  · by_cases q2 : ys.length = 0
    · have q3 : ¬ (0 : Int) < ys.length := by omega
      simp -implicitDefEqProofs (disch := first | omega | (simp only [List.length_map, List.length_append, List.length_cons, List.length_nil, List.length_take, List.length_drop, repS_len, rngL_len, List.length_range, List.length_reverse]; done) | (simp only [List.length_map, List.length_append, List.length_cons, List.length_nil, List.length_take, List.length_drop, repS_len, rngL_len, List.length_range, List.length_reverse]; omega)) only [mVar_ev, mVarR_ev, getV_val, getR_val, getR_own, mC_ev, mOp_ev, mOpL_ev, mT_ev, asB_bl, mAnd_ev, mOr_ev, mNot_ev, mAndV_ev, mOrV_ev, mNotV_ev, mIf_ev, mNil_ev, mCons_ev, mTup_ev, mLst_ev, mCall_ev, mPn_ev, mPs_ev, asI_int, mSl_ev, mSlL_ev, asL_lst, asL_scr, asTp_tup, asSt_str, R_ite, mWalk_ev, mLe_ev, mNeg_ev, mSeq_ev, mSkip_ev, bind_nx, bind_rt, bind_rtL, bind_bk, bind_ct, bind_ex, bind_ite, lift_ok, lift_exc, lift_ite, mAsg_ev, mAsgL_ev, mDrop_ev, mRet_ev, mRetL_ev, mRetN_ev, mRetOwn_ev, getO_own, mIfS_ev, mSet1_ev, onO_own, onO_val, mAppend_ev, putO_own, mAsgG_ev, optSO_some, gSet_ev, gsNil_ev, gsCons_ev, obind_some, gTupM_1, gTupM_2, gTupM_3, gTupM_4, gTupM_5, gTupM_6, mFor_ev, retD_nx, retD_rt, retD_rtL, retD_ex, retD_ite, retLs_rtL, retLs_ex, retLs_ite, nth_zero, nth_succ, set_zero, set_succ, add_int, add_str, add_lst, lcat_lst, sub_int', neg_int', lt_int', le_int', gt_int', ge_int', mod_int', fdiv_int, mul_int', mul_str', isN_non, isN_int, notN_non, notN_int, eq_int', ne_int', eq_str', ne_str', eq_bl', ne_bl', len_str', len_lst, len_tup, len_scr, max_int, min_int, sl_str', sl_lst, sl_scr, lsl_lst, lsl_scr, ix_str', ix_lst, ix_tup', ix_scr, range1_ok, range2_ok, range3_ok, mMeth_ev, onStr_str, mComp_ev, mCh_ev, wipeE_nil, wipeE_cons, mYes_ev, int_int, int_bl, asW_lst, asW_tup, asW_scr, asW_str, lt_str', le_str', gt_str', ge_str', mRaise_ev, sum_ints, all_bls, any_bls, list_lst, list_tup, list_scr, sorted_ints', g_find_ev, g_find3_ev, g_find4_ev, g_rfind_ev, g_rfind4_ev, g_count_ev, g_count3_ev, g_count4_ev, g_startswith_ev, g_endswith_ev, Int.reduceToNat, List.getD_cons_zero, List.getD_cons_succ, List.length_map, List.length_reverse, Int.zero_mul, Int.mul_zero, Int.add_zero, Int.mul_one, nc0, nc1, nc2, nc3, nc4, nc5, nc6, nc7, nc8, nc9, nc10, nc11, nc12, nc13, List.cons_append, List.nil_append, decide_true, decide_false, not_false_eq_true, not_true_eq_false, mCallR_ev, retLE_rtL, retDE_rt, flatR_bl, flatR_int, flatR_str, flatR_non, flatR_exc, getOwn_own, mMut0_ev, mSetIx_ev, putIx_ok, rev_lst, lrep_ev, if_small, if_small', rngL_len, endS_nx, endS_rt, in_sign, notIn_sign, isN_str, notN_str, isN_tup, notN_tup, isi_int_int, isi_int_bool, isi_bl_bool, isi_bl_int, isi_str_str, isi_tup_tup, isi_lst_lst, isi_non_int, isi_non_tup, _root_.FL.R.ok_bind, _root_.FL.R.exc_bind, _root_.FL.R.stuck_bind, _root_.FL.R.pure_eq, List.append_nil, List.length_cons, List.length_nil, Nat.zero_add, Nat.reduceAdd, Nat.reduceLeDiff, Nat.reduceLT, and_self, and_true, true_and, nextK_nx, nextK_ct, nextK_bk, nextK_rt, nextK_rtL, nextK_ex, nextK_ite, decide_eq_true_eq, if_true, if_false, ite_true, ite_false, Bool.true_eq_false, Bool.false_eq_true, Bool.not_true, Bool.not_false, reduceIte, Bool.not_eq_true', decide_eq_false_iff_not, e_cell, q, q3, List.length_map]
      exact ⟨ys, rfl, by omega⟩
    · have q3 : (0 : Int) < ys.length := by omega
      have hd : 0 ≤ 600 / (ys.length : Int) ∧ 600 / (ys.length : Int) ≤ 600 := ⟨Int.ediv_nonneg (by omega) (by omega), Int.ediv_le_self _ (by omega)⟩
      have hm : ys.length * (600 / (ys.length : Int) + 1).toNat ≤ 60 * 601 := Nat.mul_le_mul (by omega) (by omega)
      have h9 := mod_bd (ns.getD 0 0 / 5) (b := 9) (by omega)
      simp -implicitDefEqProofs (disch := first | omega | (simp only [List.length_map, List.length_append, List.length_cons, List.length_nil, List.length_take, List.length_drop, repS_len, rngL_len, List.length_range, List.length_reverse]; done) | (simp only [List.length_map, List.length_append, List.length_cons, List.length_nil, List.length_take, List.length_drop, repS_len, rngL_len, List.length_range, List.length_reverse]; omega)) only [mVar_ev, mVarR_ev, getV_val, getR_val, getR_own, mC_ev, mOp_ev, mOpL_ev, mT_ev, asB_bl, mAnd_ev, mOr_ev, mNot_ev, mAndV_ev, mOrV_ev, mNotV_ev, mIf_ev, mNil_ev, mCons_ev, mTup_ev, mLst_ev, mCall_ev, mPn_ev, mPs_ev, asI_int, mSl_ev, mSlL_ev, asL_lst, asL_scr, asTp_tup, asSt_str, R_ite, mWalk_ev, mLe_ev, mNeg_ev, mSeq_ev, mSkip_ev, bind_nx, bind_rt, bind_rtL, bind_bk, bind_ct, bind_ex, bind_ite, lift_ok, lift_exc, lift_ite, mAsg_ev, mAsgL_ev, mDrop_ev, mRet_ev, mRetL_ev, mRetN_ev, mRetOwn_ev, getO_own, mIfS_ev, mSet1_ev, onO_own, onO_val, mAppend_ev, putO_own, mAsgG_ev, optSO_some, gSet_ev, gsNil_ev, gsCons_ev, obind_some, gTupM_1, gTupM_2, gTupM_3, gTupM_4, gTupM_5, gTupM_6, mFor_ev, retD_nx, retD_rt, retD_rtL, retD_ex, retD_ite, retLs_rtL, retLs_ex, retLs_ite, nth_zero, nth_succ, set_zero, set_succ, add_int, add_str, add_lst, lcat_lst, sub_int', neg_int', lt_int', le_int', gt_int', ge_int', mod_int', fdiv_int, mul_int', mul_str', isN_non, isN_int, notN_non, notN_int, eq_int', ne_int', eq_str', ne_str', eq_bl', ne_bl', len_str', len_lst, len_tup, len_scr, max_int, min_int, sl_str', sl_lst, sl_scr, lsl_lst, lsl_scr, ix_str', ix_lst, ix_tup', ix_scr, range1_ok, range2_ok, range3_ok, mMeth_ev, onStr_str, mComp_ev, mCh_ev, wipeE_nil, wipeE_cons, mYes_ev, int_int, int_bl, asW_lst, asW_tup, asW_scr, asW_str, lt_str', le_str', gt_str', ge_str', mRaise_ev, sum_ints, all_bls, any_bls, list_lst, list_tup, list_scr, sorted_ints', g_find_ev, g_find3_ev, g_find4_ev, g_rfind_ev, g_rfind4_ev, g_count_ev, g_count3_ev, g_count4_ev, g_startswith_ev, g_endswith_ev, Int.reduceToNat, List.getD_cons_zero, List.getD_cons_succ, List.length_map, List.length_reverse, Int.zero_mul, Int.mul_zero, Int.add_zero, Int.mul_one, nc0, nc1, nc2, nc3, nc4, nc5, nc6, nc7, nc8, nc9, nc10, nc11, nc12, nc13, List.cons_append, List.nil_append, decide_true, decide_false, not_false_eq_true, not_true_eq_false, mCallR_ev, retLE_rtL, retDE_rt, flatR_bl, flatR_int, flatR_str, flatR_non, flatR_exc, getOwn_own, mMut0_ev, mSetIx_ev, putIx_ok, rev_lst, lrep_ev, if_small, if_small', rngL_len, endS_nx, endS_rt, in_sign, notIn_sign, isN_str, notN_str, isN_tup, notN_tup, isi_int_int, isi_int_bool, isi_bl_bool, isi_bl_int, isi_str_str, isi_tup_tup, isi_lst_lst, isi_non_int, isi_non_tup, _root_.FL.R.ok_bind, _root_.FL.R.exc_bind, _root_.FL.R.stuck_bind, _root_.FL.R.pure_eq, List.append_nil, List.length_cons, List.length_nil, Nat.zero_add, Nat.reduceAdd, Nat.reduceLeDiff, Nat.reduceLT, and_self, and_true, true_and, nextK_nx, nextK_ct, nextK_bk, nextK_rt, nextK_rtL, nextK_ex, nextK_ite, decide_eq_true_eq, if_true, if_false, ite_true, ite_false, Bool.true_eq_false, Bool.false_eq_true, Bool.not_true, Bool.not_false, reduceIte, Bool.not_eq_true', decide_eq_false_iff_not, e_cell, q, q3, List.length_map]
      refine ⟨_, rfl, ?_⟩
      rw [none_cut _ _ (by omega), List.length_take]
      omega
  · simp -implicitDefEqProofs (disch := first | omega | (simp only [List.length_map, List.length_append, List.length_cons, List.length_nil, List.length_take, List.length_drop, repS_len, rngL_len, List.length_range, List.length_reverse]; done) | (simp only [List.length_map, List.length_append, List.length_cons, List.length_nil, List.length_take, List.length_drop, repS_len, rngL_len, List.length_range, List.length_reverse]; omega)) only [mVar_ev, mVarR_ev, getV_val, getR_val, getR_own, mC_ev, mOp_ev, mOpL_ev, mT_ev, asB_bl, mAnd_ev, mOr_ev, mNot_ev, mAndV_ev, mOrV_ev, mNotV_ev, mIf_ev, mNil_ev, mCons_ev, mTup_ev, mLst_ev, mCall_ev, mPn_ev, mPs_ev, asI_int, mSl_ev, mSlL_ev, asL_lst, asL_scr, asTp_tup, asSt_str, R_ite, mWalk_ev, mLe_ev, mNeg_ev, mSeq_ev, mSkip_ev, bind_nx, bind_rt, bind_rtL, bind_bk, bind_ct, bind_ex, bind_ite, lift_ok, lift_exc, lift_ite, mAsg_ev, mAsgL_ev, mDrop_ev, mRet_ev, mRetL_ev, mRetN_ev, mRetOwn_ev, getO_own, mIfS_ev, mSet1_ev, onO_own, onO_val, mAppend_ev, putO_own, mAsgG_ev, optSO_some, gSet_ev, gsNil_ev, gsCons_ev, obind_some, gTupM_1, gTupM_2, gTupM_3, gTupM_4, gTupM_5, gTupM_6, mFor_ev, retD_nx, retD_rt, retD_rtL, retD_ex, retD_ite, retLs_rtL, retLs_ex, retLs_ite, nth_zero, nth_succ, set_zero, set_succ, add_int, add_str, add_lst, lcat_lst, sub_int', neg_int', lt_int', le_int', gt_int', ge_int', mod_int', fdiv_int, mul_int', mul_str', isN_non, isN_int, notN_non, notN_int, eq_int', ne_int', eq_str', ne_str', eq_bl', ne_bl', len_str', len_lst, len_tup, len_scr, max_int, min_int, sl_str', sl_lst, sl_scr, lsl_lst, lsl_scr, ix_str', ix_lst, ix_tup', ix_scr, range1_ok, range2_ok, range3_ok, mMeth_ev, onStr_str, mComp_ev, mCh_ev, wipeE_nil, wipeE_cons, mYes_ev, int_int, int_bl, asW_lst, asW_tup, asW_scr, asW_str, lt_str', le_str', gt_str', ge_str', mRaise_ev, sum_ints, all_bls, any_bls, list_lst, list_tup, list_scr, sorted_ints', g_find_ev, g_find3_ev, g_find4_ev, g_rfind_ev, g_rfind4_ev, g_count_ev, g_count3_ev, g_count4_ev, g_startswith_ev, g_endswith_ev, Int.reduceToNat, List.getD_cons_zero, List.getD_cons_succ, List.length_map, List.length_reverse, Int.zero_mul, Int.mul_zero, Int.add_zero, Int.mul_one, nc0, nc1, nc2, nc3, nc4, nc5, nc6, nc7, nc8, nc9, nc10, nc11, nc12, nc13, List.cons_append, List.nil_append, decide_true, decide_false, not_false_eq_true, not_true_eq_false, mCallR_ev, retLE_rtL, retDE_rt, flatR_bl, flatR_int, flatR_str, flatR_non, flatR_exc, getOwn_own, mMut0_ev, mSetIx_ev, putIx_ok, rev_lst, lrep_ev, if_small, if_small', rngL_len, endS_nx, endS_rt, in_sign, notIn_sign, isN_str, notN_str, isN_tup, notN_tup, isi_int_int, isi_int_bool, isi_bl_bool, isi_bl_int, isi_str_str, isi_tup_tup, isi_lst_lst, isi_non_int, isi_non_tup, _root_.FL.R.ok_bind, _root_.FL.R.exc_bind, _root_.FL.R.stuck_bind, _root_.FL.R.pure_eq, List.append_nil, List.length_cons, List.length_nil, Nat.zero_add, Nat.reduceAdd, Nat.reduceLeDiff, Nat.reduceLT, and_self, and_true, true_and, nextK_nx, nextK_ct, nextK_bk, nextK_rt, nextK_rtL, nextK_ex, nextK_ite, decide_eq_true_eq, if_true, if_false, ite_true, ite_false, Bool.true_eq_false, Bool.false_eq_true, Bool.not_true, Bool.not_false, reduceIte, Bool.not_eq_true', decide_eq_false_iff_not, e_cell, q, List.length_map]
    exact ⟨ys, rfl, by omega⟩

/-! the rows of a text -/
theorem e_row_count (t : List Nat) : p_row_count [.str t] = .ok (.int (t.count 10 + 1)) := by
  rw [u_row_count]; unfold b_row_count
  simp -implicitDefEqProofs (disch := first | omega | (simp only [List.length_map, List.length_append, List.length_cons, List.length_nil, List.length_take, List.length_drop, repS_len, rngL_len, List.length_range, List.length_reverse]; done) | (simp only [List.length_map, List.length_append, List.length_cons, List.length_nil, List.length_take, List.length_drop, repS_len, rngL_len, List.length_range, List.length_reverse]; omega)) only [mVar_ev, mVarR_ev, getV_val, getR_val, getR_own, mC_ev, mOp_ev, mOpL_ev, mT_ev, asB_bl, mAnd_ev, mOr_ev, mNot_ev, mAndV_ev, mOrV_ev, mNotV_ev, mIf_ev, mNil_ev, mCons_ev, mTup_ev, mLst_ev, mCall_ev, mPn_ev, mPs_ev, asI_int, mSl_ev, mSlL_ev, asL_lst, asL_scr, asTp_tup, asSt_str, R_ite, mWalk_ev, mLe_ev, mNeg_ev, mSeq_ev, mSkip_ev, bind_nx, bind_rt, bind_rtL, bind_bk, bind_ct, bind_ex, bind_ite, lift_ok, lift_exc, lift_ite, mAsg_ev, mAsgL_ev, mDrop_ev, mRet_ev, mRetL_ev, mRetN_ev, mRetOwn_ev, getO_own, mIfS_ev, mSet1_ev, onO_own, onO_val, mAppend_ev, putO_own, mAsgG_ev, optSO_some, gSet_ev, gsNil_ev, gsCons_ev, obind_some, gTupM_1, gTupM_2, gTupM_3, gTupM_4, gTupM_5, gTupM_6, mFor_ev, retD_nx, retD_rt, retD_rtL, retD_ex, retD_ite, retLs_rtL, retLs_ex, retLs_ite, nth_zero, nth_succ, set_zero, set_succ, add_int, add_str, add_lst, lcat_lst, sub_int', neg_int', lt_int', le_int', gt_int', ge_int', mod_int', fdiv_int, mul_int', mul_str', isN_non, isN_int, notN_non, notN_int, eq_int', ne_int', eq_str', ne_str', eq_bl', ne_bl', len_str', len_lst, len_tup, len_scr, max_int, min_int, sl_str', sl_lst, sl_scr, lsl_lst, lsl_scr, ix_str', ix_lst, ix_tup', ix_scr, range1_ok, range2_ok, range3_ok, mMeth_ev, onStr_str, mComp_ev, mCh_ev, wipeE_nil, wipeE_cons, mYes_ev, int_int, int_bl, asW_lst, asW_tup, asW_scr, asW_str, lt_str', le_str', gt_str', ge_str', mRaise_ev, sum_ints, all_bls, any_bls, list_lst, list_tup, list_scr, sorted_ints', g_find_ev, g_find3_ev, g_find4_ev, g_rfind_ev, g_rfind4_ev, g_count_ev, g_count3_ev, g_count4_ev, g_startswith_ev, g_endswith_ev, Int.reduceToNat, List.getD_cons_zero, List.getD_cons_succ, List.length_map, List.length_reverse, Int.zero_mul, Int.mul_zero, Int.add_zero, Int.mul_one, nc0, nc1, nc2, nc3, nc4, nc5, nc6, nc7, nc8, nc9, nc10, nc11, nc12, nc13, List.cons_append, List.nil_append, decide_true, decide_false, not_false_eq_true, not_true_eq_false, mCallR_ev, retLE_rtL, retDE_rt, flatR_bl, flatR_int, flatR_str, flatR_non, flatR_exc, getOwn_own, mMut0_ev, mSetIx_ev, putIx_ok, rev_lst, lrep_ev, if_small, if_small', rngL_len, endS_nx, endS_rt, in_sign, notIn_sign, isN_str, notN_str, isN_tup, notN_tup, isi_int_int, isi_int_bool, isi_bl_bool, isi_bl_int, isi_str_str, isi_tup_tup, isi_lst_lst, isi_non_int, isi_non_tup, _root_.FL.R.ok_bind, _root_.FL.R.exc_bind, _root_.FL.R.stuck_bind, _root_.FL.R.pure_eq, List.append_nil, List.length_cons, List.length_nil, Nat.zero_add, Nat.reduceAdd, Nat.reduceLeDiff, Nat.reduceLT, and_self, and_true, true_and, nextK_nx, nextK_ct, nextK_bk, nextK_rt, nextK_rtL, nextK_ex, nextK_ite, decide_eq_true_eq, if_true, if_false, ite_true, ite_false, Bool.true_eq_false, Bool.false_eq_true, Bool.not_true, Bool.not_false, reduceIte, Bool.not_eq_true', decide_eq_false_iff_not, count_sg]
theorem e_ahead (t : List Nat) (p : Int) (h : t.length ≤ 100000) : p_signs_ahead [.str t, .int p] = if 0 ≤ p ∧ p ≤ t.length then .ok (.str (t.take p.toNat)) else .exc "NoPlace" none := by
  rw [u_signs_ahead]; unfold b_signs_ahead
  by_cases q1 : p < 0
  · have q : ¬ (0 ≤ p ∧ p ≤ t.length) := by omega
    simp -implicitDefEqProofs (disch := first | omega | (simp only [List.length_map, List.length_append, List.length_cons, List.length_nil, List.length_take, List.length_drop, repS_len, rngL_len, List.length_range, List.length_reverse]; done) | (simp only [List.length_map, List.length_append, List.length_cons, List.length_nil, List.length_take, List.length_drop, repS_len, rngL_len, List.length_range, List.length_reverse]; omega)) only [mVar_ev, mVarR_ev, getV_val, getR_val, getR_own, mC_ev, mOp_ev, mOpL_ev, mT_ev, asB_bl, mAnd_ev, mOr_ev, mNot_ev, mAndV_ev, mOrV_ev, mNotV_ev, mIf_ev, mNil_ev, mCons_ev, mTup_ev, mLst_ev, mCall_ev, mPn_ev, mPs_ev, asI_int, mSl_ev, mSlL_ev, asL_lst, asL_scr, asTp_tup, asSt_str, R_ite, mWalk_ev, mLe_ev, mNeg_ev, mSeq_ev, mSkip_ev, bind_nx, bind_rt, bind_rtL, bind_bk, bind_ct, bind_ex, bind_ite, lift_ok, lift_exc, lift_ite, mAsg_ev, mAsgL_ev, mDrop_ev, mRet_ev, mRetL_ev, mRetN_ev, mRetOwn_ev, getO_own, mIfS_ev, mSet1_ev, onO_own, onO_val, mAppend_ev, putO_own, mAsgG_ev, optSO_some, gSet_ev, gsNil_ev, gsCons_ev, obind_some, gTupM_1, gTupM_2, gTupM_3, gTupM_4, gTupM_5, gTupM_6, mFor_ev, retD_nx, retD_rt, retD_rtL, retD_ex, retD_ite, retLs_rtL, retLs_ex, retLs_ite, nth_zero, nth_succ, set_zero, set_succ, add_int, add_str, add_lst, lcat_lst, sub_int', neg_int', lt_int', le_int', gt_int', ge_int', mod_int', fdiv_int, mul_int', mul_str', isN_non, isN_int, notN_non, notN_int, eq_int', ne_int', eq_str', ne_str', eq_bl', ne_bl', len_str', len_lst, len_tup, len_scr, max_int, min_int, sl_str', sl_lst, sl_scr, lsl_lst, lsl_scr, ix_str', ix_lst, ix_tup', ix_scr, range1_ok, range2_ok, range3_ok, mMeth_ev, onStr_str, mComp_ev, mCh_ev, wipeE_nil, wipeE_cons, mYes_ev, int_int, int_bl, asW_lst, asW_tup, asW_scr, asW_str, lt_str', le_str', gt_str', ge_str', mRaise_ev, sum_ints, all_bls, any_bls, list_lst, list_tup, list_scr, sorted_ints', g_find_ev, g_find3_ev, g_find4_ev, g_rfind_ev, g_rfind4_ev, g_count_ev, g_count3_ev, g_count4_ev, g_startswith_ev, g_endswith_ev, Int.reduceToNat, List.getD_cons_zero, List.getD_cons_succ, List.length_map, List.length_reverse, Int.zero_mul, Int.mul_zero, Int.add_zero, Int.mul_one, nc0, nc1, nc2, nc3, nc4, nc5, nc6, nc7, nc8, nc9, nc10, nc11, nc12, nc13, List.cons_append, List.nil_append, decide_true, decide_false, not_false_eq_true, not_true_eq_false, mCallR_ev, retLE_rtL, retDE_rt, flatR_bl, flatR_int, flatR_str, flatR_non, flatR_exc, getOwn_own, mMut0_ev, mSetIx_ev, putIx_ok, rev_lst, lrep_ev, if_small, if_small', rngL_len, endS_nx, endS_rt, in_sign, notIn_sign, isN_str, notN_str, isN_tup, notN_tup, isi_int_int, isi_int_bool, isi_bl_bool, isi_bl_int, isi_str_str, isi_tup_tup, isi_lst_lst, isi_non_int, isi_non_tup, _root_.FL.R.ok_bind, _root_.FL.R.exc_bind, _root_.FL.R.stuck_bind, _root_.FL.R.pure_eq, List.append_nil, List.length_cons, List.length_nil, Nat.zero_add, Nat.reduceAdd, Nat.reduceLeDiff, Nat.reduceLT, and_self, and_true, true_and, nextK_nx, nextK_ct, nextK_bk, nextK_rt, nextK_rtL, nextK_ex, nextK_ite, decide_eq_true_eq, if_true, if_false, ite_true, ite_false, Bool.true_eq_false, Bool.false_eq_true, Bool.not_true, Bool.not_false, reduceIte, Bool.not_eq_true', decide_eq_false_iff_not, q1, q]
  by_cases q2 : (t.length : Int) < p
  · have q : ¬ (0 ≤ p ∧ p ≤ t.length) := by omega
    simp -implicitDefEqProofs (disch := first | omega | (simp only [List.length_map, List.length_append, List.length_cons, List.length_nil, List.length_take, List.length_drop, repS_len, rngL_len, List.length_range, List.length_reverse]; done) | (simp only [List.length_map, List.length_append, List.length_cons, List.length_nil, List.length_take, List.length_drop, repS_len, rngL_len, List.length_range, List.length_reverse]; omega)) only [mVar_ev, mVarR_ev, getV_val, getR_val, getR_own, mC_ev, mOp_ev, mOpL_ev, mT_ev, asB_bl, mAnd_ev, mOr_ev, mNot_ev, mAndV_ev, mOrV_ev, mNotV_ev, mIf_ev, mNil_ev, mCons_ev, mTup_ev, mLst_ev, mCall_ev, mPn_ev, mPs_ev, asI_int, mSl_ev, mSlL_ev, asL_lst, asL_scr, asTp_tup, asSt_str, R_ite, mWalk_ev, mLe_ev, mNeg_ev, mSeq_ev, mSkip_ev, bind_nx, bind_rt, bind_rtL, bind_bk, bind_ct, bind_ex, bind_ite, lift_ok, lift_exc, lift_ite, mAsg_ev, mAsgL_ev, mDrop_ev, mRet_ev, mRetL_ev, mRetN_ev, mRetOwn_ev, getO_own, mIfS_ev, mSet1_ev, onO_own, onO_val, mAppend_ev, putO_own, mAsgG_ev, optSO_some, gSet_ev, gsNil_ev, gsCons_ev, obind_some, gTupM_1, gTupM_2, gTupM_3, gTupM_4, gTupM_5, gTupM_6, mFor_ev, retD_nx, retD_rt, retD_rtL, retD_ex, retD_ite, retLs_rtL, retLs_ex, retLs_ite, nth_zero, nth_succ, set_zero, set_succ, add_int, add_str, add_lst, lcat_lst, sub_int', neg_int', lt_int', le_int', gt_int', ge_int', mod_int', fdiv_int, mul_int', mul_str', isN_non, isN_int, notN_non, notN_int, eq_int', ne_int', eq_str', ne_str', eq_bl', ne_bl', len_str', len_lst, len_tup, len_scr, max_int, min_int, sl_str', sl_lst, sl_scr, lsl_lst, lsl_scr, ix_str', ix_lst, ix_tup', ix_scr, range1_ok, range2_ok, range3_ok, mMeth_ev, onStr_str, mComp_ev, mCh_ev, wipeE_nil, wipeE_cons, mYes_ev, int_int, int_bl, asW_lst, asW_tup, asW_scr, asW_str, lt_str', le_str', gt_str', ge_str', mRaise_ev, sum_ints, all_bls, any_bls, list_lst, list_tup, list_scr, sorted_ints', g_find_ev, g_find3_ev, g_find4_ev, g_rfind_ev, g_rfind4_ev, g_count_ev, g_count3_ev, g_count4_ev, g_startswith_ev, g_endswith_ev, Int.reduceToNat, List.getD_cons_zero, List.getD_cons_succ, List.length_map, List.length_reverse, Int.zero_mul, Int.mul_zero, Int.add_zero, Int.mul_one, nc0, nc1, nc2, nc3, nc4, nc5, nc6, nc7, nc8, nc9, nc10, nc11, nc12, nc13, List.cons_append, List.nil_append, decide_true, decide_false, not_false_eq_true, not_true_eq_false, mCallR_ev, retLE_rtL, retDE_rt, flatR_bl, flatR_int, flatR_str, flatR_non, flatR_exc, getOwn_own, mMut0_ev, mSetIx_ev, putIx_ok, rev_lst, lrep_ev, if_small, if_small', rngL_len, endS_nx, endS_rt, in_sign, notIn_sign, isN_str, notN_str, isN_tup, notN_tup, isi_int_int, isi_int_bool, isi_bl_bool, isi_bl_int, isi_str_str, isi_tup_tup, isi_lst_lst, isi_non_int, isi_non_tup, _root_.FL.R.ok_bind, _root_.FL.R.exc_bind, _root_.FL.R.stuck_bind, _root_.FL.R.pure_eq, List.append_nil, List.length_cons, List.length_nil, Nat.zero_add, Nat.reduceAdd, Nat.reduceLeDiff, Nat.reduceLT, and_self, and_true, true_and, nextK_nx, nextK_ct, nextK_bk, nextK_rt, nextK_rtL, nextK_ex, nextK_ite, decide_eq_true_eq, if_true, if_false, ite_true, ite_false, Bool.true_eq_false, Bool.false_eq_true, Bool.not_true, Bool.not_false, reduceIte, Bool.not_eq_true', decide_eq_false_iff_not, q1, q2, q]
  · have q : 0 ≤ p ∧ p ≤ t.length := by omega
    simp -implicitDefEqProofs (disch := first | omega | (simp only [List.length_map, List.length_append, List.length_cons, List.length_nil, List.length_take, List.length_drop, repS_len, rngL_len, List.length_range, List.length_reverse]; done) | (simp only [List.length_map, List.length_append, List.length_cons, List.length_nil, List.length_take, List.length_drop, repS_len, rngL_len, List.length_range, List.length_reverse]; omega)) only [mVar_ev, mVarR_ev, getV_val, getR_val, getR_own, mC_ev, mOp_ev, mOpL_ev, mT_ev, asB_bl, mAnd_ev, mOr_ev, mNot_ev, mAndV_ev, mOrV_ev, mNotV_ev, mIf_ev, mNil_ev, mCons_ev, mTup_ev, mLst_ev, mCall_ev, mPn_ev, mPs_ev, asI_int, mSl_ev, mSlL_ev, asL_lst, asL_scr, asTp_tup, asSt_str, R_ite, mWalk_ev, mLe_ev, mNeg_ev, mSeq_ev, mSkip_ev, bind_nx, bind_rt, bind_rtL, bind_bk, bind_ct, bind_ex, bind_ite, lift_ok, lift_exc, lift_ite, mAsg_ev, mAsgL_ev, mDrop_ev, mRet_ev, mRetL_ev, mRetN_ev, mRetOwn_ev, getO_own, mIfS_ev, mSet1_ev, onO_own, onO_val, mAppend_ev, putO_own, mAsgG_ev, optSO_some, gSet_ev, gsNil_ev, gsCons_ev, obind_some, gTupM_1, gTupM_2, gTupM_3, gTupM_4, gTupM_5, gTupM_6, mFor_ev, retD_nx, retD_rt, retD_rtL, retD_ex, retD_ite, retLs_rtL, retLs_ex, retLs_ite, nth_zero, nth_succ, set_zero, set_succ, add_int, add_str, add_lst, lcat_lst, sub_int', neg_int', lt_int', le_int', gt_int', ge_int', mod_int', fdiv_int, mul_int', mul_str', isN_non, isN_int, notN_non, notN_int, eq_int', ne_int', eq_str', ne_str', eq_bl', ne_bl', len_str', len_lst, len_tup, len_scr, max_int, min_int, sl_str', sl_lst, sl_scr, lsl_lst, lsl_scr, ix_str', ix_lst, ix_tup', ix_scr, range1_ok, range2_ok, range3_ok, mMeth_ev, onStr_str, mComp_ev, mCh_ev, wipeE_nil, wipeE_cons, mYes_ev, int_int, int_bl, asW_lst, asW_tup, asW_scr, asW_str, lt_str', le_str', gt_str', ge_str', mRaise_ev, sum_ints, all_bls, any_bls, list_lst, list_tup, list_scr, sorted_ints', g_find_ev, g_find3_ev, g_find4_ev, g_rfind_ev, g_rfind4_ev, g_count_ev, g_count3_ev, g_count4_ev, g_startswith_ev, g_endswith_ev, Int.reduceToNat, List.getD_cons_zero, List.getD_cons_succ, List.length_map, List.length_reverse, Int.zero_mul, Int.mul_zero, Int.add_zero, Int.mul_one, nc0, nc1, nc2, nc3, nc4, nc5, nc6, nc7, nc8, nc9, nc10, nc11, nc12, nc13, List.cons_append, List.nil_append, decide_true, decide_false, not_false_eq_true, not_true_eq_false, mCallR_ev, retLE_rtL, retDE_rt, flatR_bl, flatR_int, flatR_str, flatR_non, flatR_exc, getOwn_own, mMut0_ev, mSetIx_ev, putIx_ok, rev_lst, lrep_ev, if_small, if_small', rngL_len, endS_nx, endS_rt, in_sign, notIn_sign, isN_str, notN_str, isN_tup, notN_tup, isi_int_int, isi_int_bool, isi_bl_bool, isi_bl_int, isi_str_str, isi_tup_tup, isi_lst_lst, isi_non_int, isi_non_tup, _root_.FL.R.ok_bind, _root_.FL.R.exc_bind, _root_.FL.R.stuck_bind, _root_.FL.R.pure_eq, List.append_nil, List.length_cons, List.length_nil, Nat.zero_add, Nat.reduceAdd, Nat.reduceLeDiff, Nat.reduceLT, and_self, and_true, true_and, nextK_nx, nextK_ct, nextK_bk, nextK_rt, nextK_rtL, nextK_ex, nextK_ite, decide_eq_true_eq, if_true, if_false, ite_true, ite_false, Bool.true_eq_false, Bool.false_eq_true, Bool.not_true, Bool.not_false, reduceIte, Bool.not_eq_true', decide_eq_false_iff_not, q1, q2, q, none_cut, and_self]
theorem e_row_of (t : List Nat) (p : Int) (h : t.length ≤ 100000) (h0 : 0 ≤ p) (h1 : p ≤ t.length) : p_row_of [.str t, .int p] = .ok (.int ((t.take p.toNat).count 10)) := by
  rw [u_row_of]; unfold b_row_of
  simp -implicitDefEqProofs (disch := first | omega | (simp only [List.length_map, List.length_append, List.length_cons, List.length_nil, List.length_take, List.length_drop, repS_len, rngL_len, List.length_range, List.length_reverse]; done) | (simp only [List.length_map, List.length_append, List.length_cons, List.length_nil, List.length_take, List.length_drop, repS_len, rngL_len, List.length_range, List.length_reverse]; omega)) only [mVar_ev, mVarR_ev, getV_val, getR_val, getR_own, mC_ev, mOp_ev, mOpL_ev, mT_ev, asB_bl, mAnd_ev, mOr_ev, mNot_ev, mAndV_ev, mOrV_ev, mNotV_ev, mIf_ev, mNil_ev, mCons_ev, mTup_ev, mLst_ev, mCall_ev, mPn_ev, mPs_ev, asI_int, mSl_ev, mSlL_ev, asL_lst, asL_scr, asTp_tup, asSt_str, R_ite, mWalk_ev, mLe_ev, mNeg_ev, mSeq_ev, mSkip_ev, bind_nx, bind_rt, bind_rtL, bind_bk, bind_ct, bind_ex, bind_ite, lift_ok, lift_exc, lift_ite, mAsg_ev, mAsgL_ev, mDrop_ev, mRet_ev, mRetL_ev, mRetN_ev, mRetOwn_ev, getO_own, mIfS_ev, mSet1_ev, onO_own, onO_val, mAppend_ev, putO_own, mAsgG_ev, optSO_some, gSet_ev, gsNil_ev, gsCons_ev, obind_some, gTupM_1, gTupM_2, gTupM_3, gTupM_4, gTupM_5, gTupM_6, mFor_ev, retD_nx, retD_rt, retD_rtL, retD_ex, retD_ite, retLs_rtL, retLs_ex, retLs_ite, nth_zero, nth_succ, set_zero, set_succ, add_int, add_str, add_lst, lcat_lst, sub_int', neg_int', lt_int', le_int', gt_int', ge_int', mod_int', fdiv_int, mul_int', mul_str', isN_non, isN_int, notN_non, notN_int, eq_int', ne_int', eq_str', ne_str', eq_bl', ne_bl', len_str', len_lst, len_tup, len_scr, max_int, min_int, sl_str', sl_lst, sl_scr, lsl_lst, lsl_scr, ix_str', ix_lst, ix_tup', ix_scr, range1_ok, range2_ok, range3_ok, mMeth_ev, onStr_str, mComp_ev, mCh_ev, wipeE_nil, wipeE_cons, mYes_ev, int_int, int_bl, asW_lst, asW_tup, asW_scr, asW_str, lt_str', le_str', gt_str', ge_str', mRaise_ev, sum_ints, all_bls, any_bls, list_lst, list_tup, list_scr, sorted_ints', g_find_ev, g_find3_ev, g_find4_ev, g_rfind_ev, g_rfind4_ev, g_count_ev, g_count3_ev, g_count4_ev, g_startswith_ev, g_endswith_ev, Int.reduceToNat, List.getD_cons_zero, List.getD_cons_succ, List.length_map, List.length_reverse, Int.zero_mul, Int.mul_zero, Int.add_zero, Int.mul_one, nc0, nc1, nc2, nc3, nc4, nc5, nc6, nc7, nc8, nc9, nc10, nc11, nc12, nc13, List.cons_append, List.nil_append, decide_true, decide_false, not_false_eq_true, not_true_eq_false, mCallR_ev, retLE_rtL, retDE_rt, flatR_bl, flatR_int, flatR_str, flatR_non, flatR_exc, getOwn_own, mMut0_ev, mSetIx_ev, putIx_ok, rev_lst, lrep_ev, if_small, if_small', rngL_len, endS_nx, endS_rt, in_sign, notIn_sign, isN_str, notN_str, isN_tup, notN_tup, isi_int_int, isi_int_bool, isi_bl_bool, isi_bl_int, isi_str_str, isi_tup_tup, isi_lst_lst, isi_non_int, isi_non_tup, _root_.FL.R.ok_bind, _root_.FL.R.exc_bind, _root_.FL.R.stuck_bind, _root_.FL.R.pure_eq, List.append_nil, List.length_cons, List.length_nil, Nat.zero_add, Nat.reduceAdd, Nat.reduceLeDiff, Nat.reduceLT, and_self, and_true, true_and, nextK_nx, nextK_ct, nextK_bk, nextK_rt, nextK_rtL, nextK_ex, nextK_ite, decide_eq_true_eq, if_true, if_false, ite_true, ite_false, Bool.true_eq_false, Bool.false_eq_true, Bool.not_true, Bool.not_false, reduceIte, Bool.not_eq_true', decide_eq_false_iff_not, e_ahead, h0, h1, and_self, count_sg]
theorem e_begin (t : List Nat) (r : Nat) (h : t.length ≤ 100000) (hr : r ≤ t.count 10) : ∃ b : Nat, p_begin_of [.str t, .int r] = .ok (.int b) ∧ IsB t r b := by
  rw [u_begin_of]; unfold b_begin_of
  have hc : t.count 10 ≤ t.length := List.count_le_length
  have q1 : ¬ (r : Int) < 0 := by omega
  have q2 : ¬ (t.count 10 : Int) + 1 ≤ r := by omega
  simp -implicitDefEqProofs (disch := first | omega | (simp only [List.length_map, List.length_append, List.length_cons, List.length_nil, List.length_take, List.length_drop, repS_len, rngL_len, List.length_range, List.length_reverse]; done) | (simp only [List.length_map, List.length_append, List.length_cons, List.length_nil, List.length_take, List.length_drop, repS_len, rngL_len, List.length_range, List.length_reverse]; omega)) only [mVar_ev, mVarR_ev, getV_val, getR_val, getR_own, mC_ev, mOp_ev, mOpL_ev, mT_ev, asB_bl, mAnd_ev, mOr_ev, mNot_ev, mAndV_ev, mOrV_ev, mNotV_ev, mIf_ev, mNil_ev, mCons_ev, mTup_ev, mLst_ev, mCall_ev, mPn_ev, mPs_ev, asI_int, mSl_ev, mSlL_ev, asL_lst, asL_scr, asTp_tup, asSt_str, R_ite, mWalk_ev, mLe_ev, mNeg_ev, mSeq_ev, mSkip_ev, bind_rt, bind_rtL, bind_bk, bind_ct, bind_ex, bind_ite, lift_ok, lift_exc, lift_ite, mAsg_ev, mAsgL_ev, mDrop_ev, mRet_ev, mRetL_ev, mRetN_ev, mRetOwn_ev, getO_own, mIfS_ev, mSet1_ev, onO_own, onO_val, mAppend_ev, putO_own, mAsgG_ev, optSO_some, gSet_ev, gsNil_ev, gsCons_ev, obind_some, gTupM_1, gTupM_2, gTupM_3, gTupM_4, gTupM_5, gTupM_6, mFor_ev, retD_nx, retD_rt, retD_rtL, retD_ex, retD_ite, retLs_rtL, retLs_ex, retLs_ite, nth_zero, nth_succ, set_zero, set_succ, add_int, add_str, add_lst, lcat_lst, sub_int', neg_int', lt_int', le_int', gt_int', ge_int', mod_int', fdiv_int, mul_int', mul_str', isN_non, isN_int, notN_non, notN_int, eq_int', ne_int', eq_str', ne_str', eq_bl', ne_bl', len_str', len_lst, len_tup, len_scr, max_int, min_int, sl_str', sl_lst, sl_scr, lsl_lst, lsl_scr, ix_str', ix_lst, ix_tup', ix_scr, range1_ok, range2_ok, range3_ok, mMeth_ev, onStr_str, mComp_ev, mCh_ev, wipeE_nil, wipeE_cons, mYes_ev, int_int, int_bl, asW_lst, asW_tup, asW_scr, asW_str, lt_str', le_str', gt_str', ge_str', mRaise_ev, sum_ints, all_bls, any_bls, list_lst, list_tup, list_scr, sorted_ints', g_find_ev, g_find3_ev, g_find4_ev, g_rfind_ev, g_rfind4_ev, g_count_ev, g_count3_ev, g_count4_ev, g_startswith_ev, g_endswith_ev, Int.reduceToNat, List.getD_cons_zero, List.getD_cons_succ, List.length_map, List.length_reverse, Int.zero_mul, Int.mul_zero, Int.add_zero, Int.mul_one, nc0, nc1, nc2, nc3, nc4, nc5, nc6, nc7, nc8, nc9, nc10, nc11, nc12, nc13, List.cons_append, List.nil_append, decide_true, decide_false, not_false_eq_true, not_true_eq_false, mCallR_ev, retLE_rtL, retDE_rt, flatR_bl, flatR_int, flatR_str, flatR_non, flatR_exc, getOwn_own, mMut0_ev, mSetIx_ev, putIx_ok, rev_lst, lrep_ev, if_small, if_small', rngL_len, endS_nx, endS_rt, in_sign, notIn_sign, isN_str, notN_str, isN_tup, notN_tup, isi_int_int, isi_int_bool, isi_bl_bool, isi_bl_int, isi_str_str, isi_tup_tup, isi_lst_lst, isi_non_int, isi_non_tup, _root_.FL.R.ok_bind, _root_.FL.R.exc_bind, _root_.FL.R.stuck_bind, _root_.FL.R.pure_eq, List.append_nil, List.length_cons, List.length_nil, Nat.zero_add, Nat.reduceAdd, Nat.reduceLeDiff, Nat.reduceLT, and_self, and_true, true_and, nextK_nx, nextK_ct, nextK_bk, nextK_rt, nextK_rtL, nextK_ex, nextK_ite, decide_eq_true_eq, if_true, if_false, ite_true, ite_false, Bool.true_eq_false, Bool.false_eq_true, Bool.not_true, Bool.not_false, reduceIte, Bool.not_eq_true', decide_eq_false_iff_not, e_row_count, q1, q2]
  rw [bind_nx]
  simp -implicitDefEqProofs (disch := first | omega | (simp only [List.length_map, List.length_append, List.length_cons, List.length_nil, List.length_take, List.length_drop, repS_len, rngL_len, List.length_range, List.length_reverse]; done) | (simp only [List.length_map, List.length_append, List.length_cons, List.length_nil, List.length_take, List.length_drop, repS_len, rngL_len, List.length_range, List.length_reverse]; omega)) only [mVar_ev, mVarR_ev, getV_val, getR_val, getR_own, mC_ev, mOp_ev, mOpL_ev, mT_ev, asB_bl, mAnd_ev, mOr_ev, mNot_ev, mAndV_ev, mOrV_ev, mNotV_ev, mIf_ev, mNil_ev, mCons_ev, mTup_ev, mLst_ev, mCall_ev, mPn_ev, mPs_ev, asI_int, mSl_ev, mSlL_ev, asL_lst, asL_scr, asTp_tup, asSt_str, R_ite, mWalk_ev, mLe_ev, mNeg_ev, mSeq_ev, mSkip_ev, bind_rt, bind_rtL, bind_bk, bind_ct, bind_ex, bind_ite, lift_ok, lift_exc, lift_ite, mAsg_ev, mAsgL_ev, mDrop_ev, mRet_ev, mRetL_ev, mRetN_ev, mRetOwn_ev, getO_own, mIfS_ev, mSet1_ev, onO_own, onO_val, mAppend_ev, putO_own, mAsgG_ev, optSO_some, gSet_ev, gsNil_ev, gsCons_ev, obind_some, gTupM_1, gTupM_2, gTupM_3, gTupM_4, gTupM_5, gTupM_6, mFor_ev, retD_nx, retD_rt, retD_rtL, retD_ex, retD_ite, retLs_rtL, retLs_ex, retLs_ite, nth_zero, nth_succ, set_zero, set_succ, add_int, add_str, add_lst, lcat_lst, sub_int', neg_int', lt_int', le_int', gt_int', ge_int', mod_int', fdiv_int, mul_int', mul_str', isN_non, isN_int, notN_non, notN_int, eq_int', ne_int', eq_str', ne_str', eq_bl', ne_bl', len_str', len_lst, len_tup, len_scr, max_int, min_int, sl_str', sl_lst, sl_scr, lsl_lst, lsl_scr, ix_str', ix_lst, ix_tup', ix_scr, range1_ok, range2_ok, range3_ok, mMeth_ev, onStr_str, mComp_ev, mCh_ev, wipeE_nil, wipeE_cons, mYes_ev, int_int, int_bl, asW_lst, asW_tup, asW_scr, asW_str, lt_str', le_str', gt_str', ge_str', mRaise_ev, sum_ints, all_bls, any_bls, list_lst, list_tup, list_scr, sorted_ints', g_find_ev, g_find3_ev, g_find4_ev, g_rfind_ev, g_rfind4_ev, g_count_ev, g_count3_ev, g_count4_ev, g_startswith_ev, g_endswith_ev, Int.reduceToNat, List.getD_cons_zero, List.getD_cons_succ, List.length_map, List.length_reverse, Int.zero_mul, Int.mul_zero, Int.add_zero, Int.mul_one, nc0, nc1, nc2, nc3, nc4, nc5, nc6, nc7, nc8, nc9, nc10, nc11, nc12, nc13, List.cons_append, List.nil_append, decide_true, decide_false, not_false_eq_true, not_true_eq_false, mCallR_ev, retLE_rtL, retDE_rt, flatR_bl, flatR_int, flatR_str, flatR_non, flatR_exc, getOwn_own, mMut0_ev, mSetIx_ev, putIx_ok, rev_lst, lrep_ev, if_small, if_small', rngL_len, endS_nx, endS_rt, in_sign, notIn_sign, isN_str, notN_str, isN_tup, notN_tup, isi_int_int, isi_int_bool, isi_bl_bool, isi_bl_int, isi_str_str, isi_tup_tup, isi_lst_lst, isi_non_int, isi_non_tup, _root_.FL.R.ok_bind, _root_.FL.R.exc_bind, _root_.FL.R.stuck_bind, _root_.FL.R.pure_eq, List.append_nil, List.length_cons, List.length_nil, Nat.zero_add, Nat.reduceAdd, Nat.reduceLeDiff, Nat.reduceLT, and_self, and_true, true_and, nextK_nx, nextK_ct, nextK_bk, nextK_rt, nextK_rtL, nextK_ex, nextK_ite, decide_eq_true_eq, if_true, if_false, ite_true, ite_false, Bool.true_eq_false, Bool.false_eq_true, Bool.not_true, Bool.not_false, reduceIte, Bool.not_eq_true', decide_eq_false_iff_not]
  rw [bind_nx]
  simp -implicitDefEqProofs (disch := first | omega | (simp only [List.length_map, List.length_append, List.length_cons, List.length_nil, List.length_take, List.length_drop, repS_len, rngL_len, List.length_range, List.length_reverse]; done) | (simp only [List.length_map, List.length_append, List.length_cons, List.length_nil, List.length_take, List.length_drop, repS_len, rngL_len, List.length_range, List.length_reverse]; omega)) only [mVar_ev, mVarR_ev, getV_val, getR_val, getR_own, mC_ev, mOp_ev, mOpL_ev, mT_ev, asB_bl, mAnd_ev, mOr_ev, mNot_ev, mAndV_ev, mOrV_ev, mNotV_ev, mIf_ev, mNil_ev, mCons_ev, mTup_ev, mLst_ev, mCall_ev, mPn_ev, mPs_ev, asI_int, mSl_ev, mSlL_ev, asL_lst, asL_scr, asTp_tup, asSt_str, R_ite, mWalk_ev, mLe_ev, mNeg_ev, mSeq_ev, mSkip_ev, bind_rt, bind_rtL, bind_bk, bind_ct, bind_ex, bind_ite, lift_ok, lift_exc, lift_ite, mAsg_ev, mAsgL_ev, mDrop_ev, mRet_ev, mRetL_ev, mRetN_ev, mRetOwn_ev, getO_own, mIfS_ev, mSet1_ev, onO_own, onO_val, mAppend_ev, putO_own, mAsgG_ev, optSO_some, gSet_ev, gsNil_ev, gsCons_ev, obind_some, gTupM_1, gTupM_2, gTupM_3, gTupM_4, gTupM_5, gTupM_6, mFor_ev, retD_nx, retD_rt, retD_rtL, retD_ex, retD_ite, retLs_rtL, retLs_ex, retLs_ite, nth_zero, nth_succ, set_zero, set_succ, add_int, add_str, add_lst, lcat_lst, sub_int', neg_int', lt_int', le_int', gt_int', ge_int', mod_int', fdiv_int, mul_int', mul_str', isN_non, isN_int, notN_non, notN_int, eq_int', ne_int', eq_str', ne_str', eq_bl', ne_bl', len_str', len_lst, len_tup, len_scr, max_int, min_int, sl_str', sl_lst, sl_scr, lsl_lst, lsl_scr, ix_str', ix_lst, ix_tup', ix_scr, range1_ok, range2_ok, range3_ok, mMeth_ev, onStr_str, mComp_ev, mCh_ev, wipeE_nil, wipeE_cons, mYes_ev, int_int, int_bl, asW_lst, asW_tup, asW_scr, asW_str, lt_str', le_str', gt_str', ge_str', mRaise_ev, sum_ints, all_bls, any_bls, list_lst, list_tup, list_scr, sorted_ints', g_find_ev, g_find3_ev, g_find4_ev, g_rfind_ev, g_rfind4_ev, g_count_ev, g_count3_ev, g_count4_ev, g_startswith_ev, g_endswith_ev, Int.reduceToNat, List.getD_cons_zero, List.getD_cons_succ, List.length_map, List.length_reverse, Int.zero_mul, Int.mul_zero, Int.add_zero, Int.mul_one, nc0, nc1, nc2, nc3, nc4, nc5, nc6, nc7, nc8, nc9, nc10, nc11, nc12, nc13, List.cons_append, List.nil_append, decide_true, decide_false, not_false_eq_true, not_true_eq_false, mCallR_ev, retLE_rtL, retDE_rt, flatR_bl, flatR_int, flatR_str, flatR_non, flatR_exc, getOwn_own, mMut0_ev, mSetIx_ev, putIx_ok, rev_lst, lrep_ev, if_small, if_small', rngL_len, endS_nx, endS_rt, in_sign, notIn_sign, isN_str, notN_str, isN_tup, notN_tup, isi_int_int, isi_int_bool, isi_bl_bool, isi_bl_int, isi_str_str, isi_tup_tup, isi_lst_lst, isi_non_int, isi_non_tup, _root_.FL.R.ok_bind, _root_.FL.R.exc_bind, _root_.FL.R.stuck_bind, _root_.FL.R.pure_eq, List.append_nil, List.length_cons, List.length_nil, Nat.zero_add, Nat.reduceAdd, Nat.reduceLeDiff, Nat.reduceLT, and_self, and_true, true_and, nextK_nx, nextK_ct, nextK_bk, nextK_rt, nextK_rtL, nextK_ex, nextK_ite, decide_eq_true_eq, if_true, if_false, ite_true, ite_false, Bool.true_eq_false, Bool.false_eq_true, Bool.not_true, Bool.not_false, reduceIte, Bool.not_eq_true', decide_eq_false_iff_not]
  obtain ⟨Γ', e, b, x, rfl, hb⟩ := forL_end (g := gSet 3) (body := b_begin_of_l1) (ds := rngL 0 1 ((r : Int)).toNat) (Γ := [.val (.str t), .val (.int r), .val (.int 0), .no])
    (fun i Γ => ∃ b : Nat, ∃ x, Γ = [.val (.str t), .val (.int r), .val (.int b), x] ∧ IsB t i b) ⟨0, _, rfl, Nat.zero_le _, by simp, .inl rfl⟩ (fun i d Γ hd ⟨b, x, hΓ, hb⟩ => by
      obtain ⟨hi, rfl⟩ := rngL_get hd
      subst hΓ
      refine ⟨_, gSet_ev _, ?_⟩
      unfold b_begin_of_l1
      obtain ⟨a1, a2, a3⟩ := hb
      rcases find3_sg t 10 b a1 with ⟨_, hn⟩ | ⟨k, hk, k1, k2, k3, k4⟩
      · have := count_none (l := t) (a := b) (b := t.length) a1 (Nat.le_refl _) hn
        rw [List.take_length] at this
        omega
      · refine ⟨_, .inl (by simp -implicitDefEqProofs (disch := first | omega | (simp only [List.length_map, List.length_append, List.length_cons, List.length_nil, List.length_take, List.length_drop, repS_len, rngL_len, List.length_range, List.length_reverse]; done) | (simp only [List.length_map, List.length_append, List.length_cons, List.length_nil, List.length_take, List.length_drop, repS_len, rngL_len, List.length_range, List.length_reverse]; omega)) only [mVar_ev, mVarR_ev, getV_val, getR_val, getR_own, mC_ev, mOp_ev, mOpL_ev, mT_ev, asB_bl, mAnd_ev, mOr_ev, mNot_ev, mAndV_ev, mOrV_ev, mNotV_ev, mIf_ev, mNil_ev, mCons_ev, mTup_ev, mLst_ev, mCall_ev, mPn_ev, mPs_ev, asI_int, mSl_ev, mSlL_ev, asL_lst, asL_scr, asTp_tup, asSt_str, R_ite, mWalk_ev, mLe_ev, mNeg_ev, mSeq_ev, mSkip_ev, bind_nx, bind_rt, bind_rtL, bind_bk, bind_ct, bind_ex, bind_ite, lift_ok, lift_exc, lift_ite, mAsg_ev, mAsgL_ev, mDrop_ev, mRet_ev, mRetL_ev, mRetN_ev, mRetOwn_ev, getO_own, mIfS_ev, mSet1_ev, onO_own, onO_val, mAppend_ev, putO_own, mAsgG_ev, optSO_some, gSet_ev, gsNil_ev, gsCons_ev, obind_some, gTupM_1, gTupM_2, gTupM_3, gTupM_4, gTupM_5, gTupM_6, mFor_ev, retD_nx, retD_rt, retD_rtL, retD_ex, retD_ite, retLs_rtL, retLs_ex, retLs_ite, nth_zero, nth_succ, set_zero, set_succ, add_int, add_str, add_lst, lcat_lst, sub_int', neg_int', lt_int', le_int', gt_int', ge_int', mod_int', fdiv_int, mul_int', mul_str', isN_non, isN_int, notN_non, notN_int, eq_int', ne_int', eq_str', ne_str', eq_bl', ne_bl', len_str', len_lst, len_tup, len_scr, max_int, min_int, sl_str', sl_lst, sl_scr, lsl_lst, lsl_scr, ix_str', ix_lst, ix_tup', ix_scr, range1_ok, range2_ok, range3_ok, mMeth_ev, onStr_str, mComp_ev, mCh_ev, wipeE_nil, wipeE_cons, mYes_ev, int_int, int_bl, asW_lst, asW_tup, asW_scr, asW_str, lt_str', le_str', gt_str', ge_str', mRaise_ev, sum_ints, all_bls, any_bls, list_lst, list_tup, list_scr, sorted_ints', g_find_ev, g_find3_ev, g_find4_ev, g_rfind_ev, g_rfind4_ev, g_count_ev, g_count3_ev, g_count4_ev, g_startswith_ev, g_endswith_ev, Int.reduceToNat, List.getD_cons_zero, List.getD_cons_succ, List.length_map, List.length_reverse, Int.zero_mul, Int.mul_zero, Int.add_zero, Int.mul_one, nc0, nc1, nc2, nc3, nc4, nc5, nc6, nc7, nc8, nc9, nc10, nc11, nc12, nc13, List.cons_append, List.nil_append, decide_true, decide_false, not_false_eq_true, not_true_eq_false, mCallR_ev, retLE_rtL, retDE_rt, flatR_bl, flatR_int, flatR_str, flatR_non, flatR_exc, getOwn_own, mMut0_ev, mSetIx_ev, putIx_ok, rev_lst, lrep_ev, if_small, if_small', rngL_len, endS_nx, endS_rt, in_sign, notIn_sign, isN_str, notN_str, isN_tup, notN_tup, isi_int_int, isi_int_bool, isi_bl_bool, isi_bl_int, isi_str_str, isi_tup_tup, isi_lst_lst, isi_non_int, isi_non_tup, _root_.FL.R.ok_bind, _root_.FL.R.exc_bind, _root_.FL.R.stuck_bind, _root_.FL.R.pure_eq, List.append_nil, List.length_cons, List.length_nil, Nat.zero_add, Nat.reduceAdd, Nat.reduceLeDiff, Nat.reduceLT, and_self, and_true, true_and, nextK_nx, nextK_ct, nextK_bk, nextK_rt, nextK_rtL, nextK_ex, nextK_ite, decide_eq_true_eq, if_true, if_false, ite_true, ite_false, Bool.true_eq_false, Bool.false_eq_true, Bool.not_true, Bool.not_false, reduceIte, Bool.not_eq_true', decide_eq_false_iff_not, hk]; rfl), k + 1, _, rfl, by omega, ?_, .inr (by simpa using k3)⟩
        rw [count_step k2, if_pos k3, count_none k1 (by omega) k4, a2])
  rw [e]
  rw [rngL_len, Int.toNat_natCast] at hb
  exact ⟨b, by simp -implicitDefEqProofs (disch := first | omega | (simp only [List.length_map, List.length_append, List.length_cons, List.length_nil, List.length_take, List.length_drop, repS_len, rngL_len, List.length_range, List.length_reverse]; done) | (simp only [List.length_map, List.length_append, List.length_cons, List.length_nil, List.length_take, List.length_drop, repS_len, rngL_len, List.length_range, List.length_reverse]; omega)) only [mVar_ev, mVarR_ev, getV_val, getR_val, getR_own, mC_ev, mOp_ev, mOpL_ev, mT_ev, asB_bl, mAnd_ev, mOr_ev, mNot_ev, mAndV_ev, mOrV_ev, mNotV_ev, mIf_ev, mNil_ev, mCons_ev, mTup_ev, mLst_ev, mCall_ev, mPn_ev, mPs_ev, asI_int, mSl_ev, mSlL_ev, asL_lst, asL_scr, asTp_tup, asSt_str, R_ite, mWalk_ev, mLe_ev, mNeg_ev, mSeq_ev, mSkip_ev, bind_nx, bind_rt, bind_rtL, bind_bk, bind_ct, bind_ex, bind_ite, lift_ok, lift_exc, lift_ite, mAsg_ev, mAsgL_ev, mDrop_ev, mRet_ev, mRetL_ev, mRetN_ev, mRetOwn_ev, getO_own, mIfS_ev, mSet1_ev, onO_own, onO_val, mAppend_ev, putO_own, mAsgG_ev, optSO_some, gSet_ev, gsNil_ev, gsCons_ev, obind_some, gTupM_1, gTupM_2, gTupM_3, gTupM_4, gTupM_5, gTupM_6, mFor_ev, retD_nx, retD_rt, retD_rtL, retD_ex, retD_ite, retLs_rtL, retLs_ex, retLs_ite, nth_zero, nth_succ, set_zero, set_succ, add_int, add_str, add_lst, lcat_lst, sub_int', neg_int', lt_int', le_int', gt_int', ge_int', mod_int', fdiv_int, mul_int', mul_str', isN_non, isN_int, notN_non, notN_int, eq_int', ne_int', eq_str', ne_str', eq_bl', ne_bl', len_str', len_lst, len_tup, len_scr, max_int, min_int, sl_str', sl_lst, sl_scr, lsl_lst, lsl_scr, ix_str', ix_lst, ix_tup', ix_scr, range1_ok, range2_ok, range3_ok, mMeth_ev, onStr_str, mComp_ev, mCh_ev, wipeE_nil, wipeE_cons, mYes_ev, int_int, int_bl, asW_lst, asW_tup, asW_scr, asW_str, lt_str', le_str', gt_str', ge_str', mRaise_ev, sum_ints, all_bls, any_bls, list_lst, list_tup, list_scr, sorted_ints', g_find_ev, g_find3_ev, g_find4_ev, g_rfind_ev, g_rfind4_ev, g_count_ev, g_count3_ev, g_count4_ev, g_startswith_ev, g_endswith_ev, Int.reduceToNat, List.getD_cons_zero, List.getD_cons_succ, List.length_map, List.length_reverse, Int.zero_mul, Int.mul_zero, Int.add_zero, Int.mul_one, nc0, nc1, nc2, nc3, nc4, nc5, nc6, nc7, nc8, nc9, nc10, nc11, nc12, nc13, List.cons_append, List.nil_append, decide_true, decide_false, not_false_eq_true, not_true_eq_false, mCallR_ev, retLE_rtL, retDE_rt, flatR_bl, flatR_int, flatR_str, flatR_non, flatR_exc, getOwn_own, mMut0_ev, mSetIx_ev, putIx_ok, rev_lst, lrep_ev, if_small, if_small', rngL_len, endS_nx, endS_rt, in_sign, notIn_sign, isN_str, notN_str, isN_tup, notN_tup, isi_int_int, isi_int_bool, isi_bl_bool, isi_bl_int, isi_str_str, isi_tup_tup, isi_lst_lst, isi_non_int, isi_non_tup, _root_.FL.R.ok_bind, _root_.FL.R.exc_bind, _root_.FL.R.stuck_bind, _root_.FL.R.pure_eq, List.append_nil, List.length_cons, List.length_nil, Nat.zero_add, Nat.reduceAdd, Nat.reduceLeDiff, Nat.reduceLT, and_self, and_true, true_and, nextK_nx, nextK_ct, nextK_bk, nextK_rt, nextK_rtL, nextK_ex, nextK_ite, decide_eq_true_eq, if_true, if_false, ite_true, ite_false, Bool.true_eq_false, Bool.false_eq_true, Bool.not_true, Bool.not_false, reduceIte, Bool.not_eq_true', decide_eq_false_iff_not], hb⟩

theorem e_end (t : List Nat) (r : Nat) (h : t.length ≤ 100000) (hr : r ≤ t.count 10) : ∃ b e : Nat, p_end_of [.str t, .int r] = .ok (.int e) ∧ p_begin_of [.str t, .int r] = .ok (.int b) ∧ IsB t r b ∧ IsE t b e := by
  rw [u_end_of]; unfold b_end_of
  obtain ⟨b, e1, hb⟩ := e_begin t r h hr
  refine ⟨b, ?_⟩
  rcases find3_sg t 10 b hb.1 with ⟨hk, hn⟩ | ⟨k, hk, k1, k2, k3, k4⟩
  · have q : (-1 : Int) < 0 := by omega
    exact ⟨t.length, by simp -implicitDefEqProofs (disch := first | omega | (simp only [List.length_map, List.length_append, List.length_cons, List.length_nil, List.length_take, List.length_drop, repS_len, rngL_len, List.length_range, List.length_reverse]; done) | (simp only [List.length_map, List.length_append, List.length_cons, List.length_nil, List.length_take, List.length_drop, repS_len, rngL_len, List.length_range, List.length_reverse]; omega)) only [mVar_ev, mVarR_ev, getV_val, getR_val, getR_own, mC_ev, mOp_ev, mOpL_ev, mT_ev, asB_bl, mAnd_ev, mOr_ev, mNot_ev, mAndV_ev, mOrV_ev, mNotV_ev, mIf_ev, mNil_ev, mCons_ev, mTup_ev, mLst_ev, mCall_ev, mPn_ev, mPs_ev, asI_int, mSl_ev, mSlL_ev, asL_lst, asL_scr, asTp_tup, asSt_str, R_ite, mWalk_ev, mLe_ev, mNeg_ev, mSeq_ev, mSkip_ev, bind_nx, bind_rt, bind_rtL, bind_bk, bind_ct, bind_ex, bind_ite, lift_ok, lift_exc, lift_ite, mAsg_ev, mAsgL_ev, mDrop_ev, mRet_ev, mRetL_ev, mRetN_ev, mRetOwn_ev, getO_own, mIfS_ev, mSet1_ev, onO_own, onO_val, mAppend_ev, putO_own, mAsgG_ev, optSO_some, gSet_ev, gsNil_ev, gsCons_ev, obind_some, gTupM_1, gTupM_2, gTupM_3, gTupM_4, gTupM_5, gTupM_6, mFor_ev, retD_nx, retD_rt, retD_rtL, retD_ex, retD_ite, retLs_rtL, retLs_ex, retLs_ite, nth_zero, nth_succ, set_zero, set_succ, add_int, add_str, add_lst, lcat_lst, sub_int', neg_int', lt_int', le_int', gt_int', ge_int', mod_int', fdiv_int, mul_int', mul_str', isN_non, isN_int, notN_non, notN_int, eq_int', ne_int', eq_str', ne_str', eq_bl', ne_bl', len_str', len_lst, len_tup, len_scr, max_int, min_int, sl_str', sl_lst, sl_scr, lsl_lst, lsl_scr, ix_str', ix_lst, ix_tup', ix_scr, range1_ok, range2_ok, range3_ok, mMeth_ev, onStr_str, mComp_ev, mCh_ev, wipeE_nil, wipeE_cons, mYes_ev, int_int, int_bl, asW_lst, asW_tup, asW_scr, asW_str, lt_str', le_str', gt_str', ge_str', mRaise_ev, sum_ints, all_bls, any_bls, list_lst, list_tup, list_scr, sorted_ints', g_find_ev, g_find3_ev, g_find4_ev, g_rfind_ev, g_rfind4_ev, g_count_ev, g_count3_ev, g_count4_ev, g_startswith_ev, g_endswith_ev, Int.reduceToNat, List.getD_cons_zero, List.getD_cons_succ, List.length_map, List.length_reverse, Int.zero_mul, Int.mul_zero, Int.add_zero, Int.mul_one, nc0, nc1, nc2, nc3, nc4, nc5, nc6, nc7, nc8, nc9, nc10, nc11, nc12, nc13, List.cons_append, List.nil_append, decide_true, decide_false, not_false_eq_true, not_true_eq_false, mCallR_ev, retLE_rtL, retDE_rt, flatR_bl, flatR_int, flatR_str, flatR_non, flatR_exc, getOwn_own, mMut0_ev, mSetIx_ev, putIx_ok, rev_lst, lrep_ev, if_small, if_small', rngL_len, endS_nx, endS_rt, in_sign, notIn_sign, isN_str, notN_str, isN_tup, notN_tup, isi_int_int, isi_int_bool, isi_bl_bool, isi_bl_int, isi_str_str, isi_tup_tup, isi_lst_lst, isi_non_int, isi_non_tup, _root_.FL.R.ok_bind, _root_.FL.R.exc_bind, _root_.FL.R.stuck_bind, _root_.FL.R.pure_eq, List.append_nil, List.length_cons, List.length_nil, Nat.zero_add, Nat.reduceAdd, Nat.reduceLeDiff, Nat.reduceLT, and_self, and_true, true_and, nextK_nx, nextK_ct, nextK_bk, nextK_rt, nextK_rtL, nextK_ex, nextK_ite, decide_eq_true_eq, if_true, if_false, ite_true, ite_false, Bool.true_eq_false, Bool.false_eq_true, Bool.not_true, Bool.not_false, reduceIte, Bool.not_eq_true', decide_eq_false_iff_not, e1, hk, q], e1, hb, hb.1, Nat.le_refl _, hn, .inl rfl⟩
  · have q : ¬ (k : Int) < 0 := by omega
    exact ⟨k, by simp -implicitDefEqProofs (disch := first | omega | (simp only [List.length_map, List.length_append, List.length_cons, List.length_nil, List.length_take, List.length_drop, repS_len, rngL_len, List.length_range, List.length_reverse]; done) | (simp only [List.length_map, List.length_append, List.length_cons, List.length_nil, List.length_take, List.length_drop, repS_len, rngL_len, List.length_range, List.length_reverse]; omega)) only [mVar_ev, mVarR_ev, getV_val, getR_val, getR_own, mC_ev, mOp_ev, mOpL_ev, mT_ev, asB_bl, mAnd_ev, mOr_ev, mNot_ev, mAndV_ev, mOrV_ev, mNotV_ev, mIf_ev, mNil_ev, mCons_ev, mTup_ev, mLst_ev, mCall_ev, mPn_ev, mPs_ev, asI_int, mSl_ev, mSlL_ev, asL_lst, asL_scr, asTp_tup, asSt_str, R_ite, mWalk_ev, mLe_ev, mNeg_ev, mSeq_ev, mSkip_ev, bind_nx, bind_rt, bind_rtL, bind_bk, bind_ct, bind_ex, bind_ite, lift_ok, lift_exc, lift_ite, mAsg_ev, mAsgL_ev, mDrop_ev, mRet_ev, mRetL_ev, mRetN_ev, mRetOwn_ev, getO_own, mIfS_ev, mSet1_ev, onO_own, onO_val, mAppend_ev, putO_own, mAsgG_ev, optSO_some, gSet_ev, gsNil_ev, gsCons_ev, obind_some, gTupM_1, gTupM_2, gTupM_3, gTupM_4, gTupM_5, gTupM_6, mFor_ev, retD_nx, retD_rt, retD_rtL, retD_ex, retD_ite, retLs_rtL, retLs_ex, retLs_ite, nth_zero, nth_succ, set_zero, set_succ, add_int, add_str, add_lst, lcat_lst, sub_int', neg_int', lt_int', le_int', gt_int', ge_int', mod_int', fdiv_int, mul_int', mul_str', isN_non, isN_int, notN_non, notN_int, eq_int', ne_int', eq_str', ne_str', eq_bl', ne_bl', len_str', len_lst, len_tup, len_scr, max_int, min_int, sl_str', sl_lst, sl_scr, lsl_lst, lsl_scr, ix_str', ix_lst, ix_tup', ix_scr, range1_ok, range2_ok, range3_ok, mMeth_ev, onStr_str, mComp_ev, mCh_ev, wipeE_nil, wipeE_cons, mYes_ev, int_int, int_bl, asW_lst, asW_tup, asW_scr, asW_str, lt_str', le_str', gt_str', ge_str', mRaise_ev, sum_ints, all_bls, any_bls, list_lst, list_tup, list_scr, sorted_ints', g_find_ev, g_find3_ev, g_find4_ev, g_rfind_ev, g_rfind4_ev, g_count_ev, g_count3_ev, g_count4_ev, g_startswith_ev, g_endswith_ev, Int.reduceToNat, List.getD_cons_zero, List.getD_cons_succ, List.length_map, List.length_reverse, Int.zero_mul, Int.mul_zero, Int.add_zero, Int.mul_one, nc0, nc1, nc2, nc3, nc4, nc5, nc6, nc7, nc8, nc9, nc10, nc11, nc12, nc13, List.cons_append, List.nil_append, decide_true, decide_false, not_false_eq_true, not_true_eq_false, mCallR_ev, retLE_rtL, retDE_rt, flatR_bl, flatR_int, flatR_str, flatR_non, flatR_exc, getOwn_own, mMut0_ev, mSetIx_ev, putIx_ok, rev_lst, lrep_ev, if_small, if_small', rngL_len, endS_nx, endS_rt, in_sign, notIn_sign, isN_str, notN_str, isN_tup, notN_tup, isi_int_int, isi_int_bool, isi_bl_bool, isi_bl_int, isi_str_str, isi_tup_tup, isi_lst_lst, isi_non_int, isi_non_tup, _root_.FL.R.ok_bind, _root_.FL.R.exc_bind, _root_.FL.R.stuck_bind, _root_.FL.R.pure_eq, List.append_nil, List.length_cons, List.length_nil, Nat.zero_add, Nat.reduceAdd, Nat.reduceLeDiff, Nat.reduceLT, and_self, and_true, true_and, nextK_nx, nextK_ct, nextK_bk, nextK_rt, nextK_rtL, nextK_ex, nextK_ite, decide_eq_true_eq, if_true, if_false, ite_true, ite_false, Bool.true_eq_false, Bool.false_eq_true, Bool.not_true, Bool.not_false, reduceIte, Bool.not_eq_true', decide_eq_false_iff_not, e1, hk, q], e1, hb, k1, by omega, k4, .inr k3⟩
/-- the end of a place's row is the first line feed from the place on -/
theorem e_end_at (t : List Nat) (p : Nat) (h : t.length ≤ 100000) (hp : p ≤ t.length) : ∃ e : Nat, p_end_of [.str t, .int ((t.take p).count 10)] = .ok (.int e) ∧ IsE t p e := by
  obtain ⟨b, e, e1, e2, hb, he⟩ := e_end t ((t.take p).count 10) h count_lt
  obtain ⟨q1, q2⟩ := hb.place hp
  obtain ⟨a1, a2, a3, a4⟩ := he
  have hpe : p ≤ e := by
    by_cases z : p ≤ e
    · exact z
    · rcases a4 with w | w
      · omega
      · exact absurd w (q2 e a1 (by omega))
  exact ⟨e, e1, hpe, a2, fun v h1 h2 => a3 v (by omega) h2, a4⟩

/-! columns -/
theorem e_col (t : List Nat) (i b : Nat) (lt : t.length ≤ 100000) (hi : i ≤ t.length) (hb : b = 0 ∨ t.getD (b - 1) 0 = 10) (hbi : b ≤ i) (hn : ∀ v, b ≤ v → v < i → t.getD v 0 ≠ 10) : p_column_of [.str t, .int i] = .ok (.int ((i : Int) - b)) := by
  have at_ : ∀ j, j < i → (t.take i)[j]? = some (t.getD j 0) := fun j hj => by
    rw [List.getElem?_take_of_lt hj, List.getD_eq_getElem?_getD, List.getElem?_eq_getElem (by omega)]; rfl
  have bd : ∀ {j c}, (t.take i)[j]? = some c → j < i ∧ t.getD j 0 = c := fun {j c} h => by
    have hj : j < i := by
      have := (List.getElem?_eq_some_iff.mp h).1
      rw [List.length_take] at this
      omega
    rw [at_ j hj] at h
    exact ⟨hj, Option.some.inj h⟩
  have hr : PySem.Txt.rfind (mk (t.take i)) (mk [10]) = (b : Int) - 1 := by
    rcases rfind_sg (t.take i) 10 with ⟨h1, h2⟩ | ⟨k, h1, h2, h3⟩
    · rcases hb with z | z
      · rw [h1, z]; rfl
      · by_cases q : b = 0
        · rw [h1, q]; rfl
        · have := at_ (b - 1) (by omega)
          rw [z] at this
          exact absurd (List.mem_of_getElem? this) h2
    · obtain ⟨g1, g2⟩ := bd h2
      have kb : k < b := by
        by_cases q : k < b
        · exact q
        · exact absurd g2 (hn k (by omega) g1)
      rcases hb with z | z
      · omega
      · have := at_ (b - 1) (by omega)
        rw [z] at this
        by_cases q : k < b - 1
        · exact absurd this (h3 (b - 1) q)
        · rw [h1]; omega
  have e0 : p_signs_ahead [.str t, .int i] = .ok (.str (t.take i)) := by
    have h0 : (0 : Int) ≤ i := by omega
    have h1 : (i : Int) ≤ t.length := by omega
    rw [e_ahead t i lt, if_pos ⟨h0, h1⟩, Int.toNat_natCast]
  rw [u_column_of]; unfold b_column_of
  simp -implicitDefEqProofs (disch := first | omega | (simp only [List.length_map, List.length_append, List.length_cons, List.length_nil, List.length_take, List.length_drop, repS_len, rngL_len, List.length_range, List.length_reverse]; done) | (simp only [List.length_map, List.length_append, List.length_cons, List.length_nil, List.length_take, List.length_drop, repS_len, rngL_len, List.length_range, List.length_reverse]; omega)) only [mVar_ev, mVarR_ev, getV_val, getR_val, getR_own, mC_ev, mOp_ev, mOpL_ev, mT_ev, asB_bl, mAnd_ev, mOr_ev, mNot_ev, mAndV_ev, mOrV_ev, mNotV_ev, mIf_ev, mNil_ev, mCons_ev, mTup_ev, mLst_ev, mCall_ev, mPn_ev, mPs_ev, asI_int, mSl_ev, mSlL_ev, asL_lst, asL_scr, asTp_tup, asSt_str, R_ite, mWalk_ev, mLe_ev, mNeg_ev, mSeq_ev, mSkip_ev, bind_nx, bind_rt, bind_rtL, bind_bk, bind_ct, bind_ex, bind_ite, lift_ok, lift_exc, lift_ite, mAsg_ev, mAsgL_ev, mDrop_ev, mRet_ev, mRetL_ev, mRetN_ev, mRetOwn_ev, getO_own, mIfS_ev, mSet1_ev, onO_own, onO_val, mAppend_ev, putO_own, mAsgG_ev, optSO_some, gSet_ev, gsNil_ev, gsCons_ev, obind_some, gTupM_1, gTupM_2, gTupM_3, gTupM_4, gTupM_5, gTupM_6, mFor_ev, retD_nx, retD_rt, retD_rtL, retD_ex, retD_ite, retLs_rtL, retLs_ex, retLs_ite, nth_zero, nth_succ, set_zero, set_succ, add_int, add_str, add_lst, lcat_lst, sub_int', neg_int', lt_int', le_int', gt_int', ge_int', mod_int', fdiv_int, mul_int', mul_str', isN_non, isN_int, notN_non, notN_int, eq_int', ne_int', eq_str', ne_str', eq_bl', ne_bl', len_str', len_lst, len_tup, len_scr, max_int, min_int, sl_str', sl_lst, sl_scr, lsl_lst, lsl_scr, ix_str', ix_lst, ix_tup', ix_scr, range1_ok, range2_ok, range3_ok, mMeth_ev, onStr_str, mComp_ev, mCh_ev, wipeE_nil, wipeE_cons, mYes_ev, int_int, int_bl, asW_lst, asW_tup, asW_scr, asW_str, lt_str', le_str', gt_str', ge_str', mRaise_ev, sum_ints, all_bls, any_bls, list_lst, list_tup, list_scr, sorted_ints', g_find_ev, g_find3_ev, g_find4_ev, g_rfind_ev, g_rfind4_ev, g_count_ev, g_count3_ev, g_count4_ev, g_startswith_ev, g_endswith_ev, Int.reduceToNat, List.getD_cons_zero, List.getD_cons_succ, List.length_map, List.length_reverse, Int.zero_mul, Int.mul_zero, Int.add_zero, Int.mul_one, nc0, nc1, nc2, nc3, nc4, nc5, nc6, nc7, nc8, nc9, nc10, nc11, nc12, nc13, List.cons_append, List.nil_append, decide_true, decide_false, not_false_eq_true, not_true_eq_false, mCallR_ev, retLE_rtL, retDE_rt, flatR_bl, flatR_int, flatR_str, flatR_non, flatR_exc, getOwn_own, mMut0_ev, mSetIx_ev, putIx_ok, rev_lst, lrep_ev, if_small, if_small', rngL_len, endS_nx, endS_rt, in_sign, notIn_sign, isN_str, notN_str, isN_tup, notN_tup, isi_int_int, isi_int_bool, isi_bl_bool, isi_bl_int, isi_str_str, isi_tup_tup, isi_lst_lst, isi_non_int, isi_non_tup, _root_.FL.R.ok_bind, _root_.FL.R.exc_bind, _root_.FL.R.stuck_bind, _root_.FL.R.pure_eq, List.append_nil, List.length_cons, List.length_nil, Nat.zero_add, Nat.reduceAdd, Nat.reduceLeDiff, Nat.reduceLT, and_self, and_true, true_and, nextK_nx, nextK_ct, nextK_bk, nextK_rt, nextK_rtL, nextK_ex, nextK_ite, decide_eq_true_eq, if_true, if_false, ite_true, ite_false, Bool.true_eq_false, Bool.false_eq_true, Bool.not_true, Bool.not_false, reduceIte, Bool.not_eq_true', decide_eq_false_iff_not, e0, hr]
  congr 2
  omega

/-! ### rows by places -/
def nlP (t : List Nat) (v : Nat) : Bool := decide (t.getD v 0 = 10)
def bgn (t : List Nat) (p : Nat) : Nat := match lstN (nlP t) 0 p with
  | some k => k + 1
  | none => 0
def enn (t : List Nat) (p : Nat) : Nat := match fstN (nlP t) p (t.length - p) with
  | some k => k
  | none => t.length
theorem bgn_spec (t : List Nat) (p : Nat) : bgn t p ≤ p ∧ (∀ v, bgn t p ≤ v → v < p → t.getD v 0 ≠ 10) ∧ (bgn t p = 0 ∨ t.getD (bgn t p - 1) 0 = 10) := by
  unfold bgn
  rcases lstN_spec (nlP t) 0 p with ⟨e, h⟩ | ⟨k, e, h1, h2, h3, h4⟩
  · rw [e]
    exact ⟨Nat.zero_le _, fun v _ g2 => of_decide_eq_false (h v (Nat.zero_le _) (by omega)), .inl rfl⟩
  · rw [e]
    exact ⟨by show k + 1 ≤ p; omega, fun v g1 g2 => of_decide_eq_false (h4 v g1 (by omega)), .inr (by have := of_decide_eq_true h3; simpa using this)⟩
theorem enn_spec {t : List Nat} {p : Nat} (hp : p ≤ t.length) : IsE t p (enn t p) := by
  unfold enn
  rcases fstN_spec (nlP t) p (t.length - p) with ⟨e, h⟩ | ⟨k, e, h1, h2, h3, h4⟩
  · rw [e]
    exact ⟨hp, Nat.le_refl _, fun v g1 g2 => of_decide_eq_false (h v g1 (by have g3 : v < t.length := g2; omega)), .inl rfl⟩
  · rw [e]
    exact ⟨h1, by show k ≤ _; omega, fun v g1 g2 => of_decide_eq_false (h4 v g1 g2), .inr (of_decide_eq_true h3)⟩
theorem bgn_B {t : List Nat} {p : Nat} (hp : p ≤ t.length) : IsB t ((t.take p).count 10) (bgn t p) := by
  obtain ⟨h1, h2, h3⟩ := bgn_spec t p
  exact ⟨by omega, (count_none h1 hp h2).symm, h3⟩
theorem enn_le {t : List Nat} {p : Nat} (hp : p ≤ t.length) : p ≤ enn t p ∧ enn t p ≤ t.length := ⟨(enn_spec hp).1, (enn_spec hp).2.1⟩
theorem e_rowN (t : List Nat) (p : Nat) (h : t.length ≤ 100000) (hp : p ≤ t.length) : p_row_of [.str t, .int (p : Int)] = .ok (.int (((t.take p).count 10 : Nat) : Int)) := by
  rw [e_row_of t p h (by omega) (by omega), Int.toNat_natCast]
theorem e_bgn (t : List Nat) (p : Nat) (h : t.length ≤ 100000) (hp : p ≤ t.length) : p_begin_of [.str t, .int (((t.take p).count 10 : Nat) : Int)] = .ok (.int (bgn t p : Nat)) := by
  obtain ⟨b, e, hb⟩ := e_begin t ((t.take p).count 10) h count_lt
  rw [e, hb.uniq (bgn_B hp)]
theorem e_enn (t : List Nat) (p : Nat) (h : t.length ≤ 100000) (hp : p ≤ t.length) : p_end_of [.str t, .int (((t.take p).count 10 : Nat) : Int)] = .ok (.int (enn t p : Nat)) := by
  obtain ⟨b, e, e1, e2, hb, he⟩ := e_end t ((t.take p).count 10) h count_lt
  obtain ⟨q1, q2⟩ := hb.place hp
  rw [e1, he.uniq ((enn_spec hp).from_ q1 q2)]
theorem bgn_at {t : List Nat} {p : Nat} (h0 : p = 0 ∨ t.getD (p - 1) 0 = 10) : bgn t p = p := by
  obtain ⟨h1, h2, h3⟩ := bgn_spec t p
  by_cases q : bgn t p = p
  · exact q
  · rcases h0 with z | z
    · omega
    · exact absurd z (h2 (p - 1) (by omega) (by omega))
theorem row_next {t : List Nat} {p : Nat} (hp : p ≤ t.length) (he : enn t p < t.length) : (t.take (enn t p + 1)).count 10 = (t.take p).count 10 + 1 := by
  obtain ⟨a1, a2, a3, a4⟩ := enn_spec hp
  have z : t.getD (enn t p) 0 = 10 := by
    rcases a4 with z | z
    · omega
    · exact z
  rw [count_step he, if_pos z, count_none a1 a2 a3]
theorem row_last {t : List Nat} {p : Nat} (hp : p ≤ t.length) : enn t p = t.length ↔ (t.take p).count 10 = t.count 10 := by
  obtain ⟨a1, a2, a3, a4⟩ := enn_spec hp
  constructor
  · intro h
    have := count_none a1 a2 a3
    rw [h, List.take_length] at this
    exact this.symm
  · intro h
    by_cases q : enn t p = t.length
    · exact q
    · have e1 := row_next hp (by omega)
      have e2 := count_lt (l := t) (p := enn t p + 1)
      omega
theorem row_back {t : List Nat} {p : Nat} (hp : p ≤ t.length) (hb : 0 < bgn t p) : (t.take p).count 10 = (t.take (bgn t p - 1)).count 10 + 1 := by
  obtain ⟨h1, h2, h3⟩ := bgn_spec t p
  have z : t.getD (bgn t p - 1) 0 = 10 := by
    rcases h3 with z | z
    · omega
    · exact z
  have e := count_step (l := t) (i := bgn t p - 1) (by omega)
  rw [if_pos z, show bgn t p - 1 + 1 = bgn t p by omega] at e
  rw [count_none h1 hp h2, e]
theorem row_zero {t : List Nat} {p : Nat} (hp : p ≤ t.length) : bgn t p = 0 ↔ (t.take p).count 10 = 0 := by
  obtain ⟨h1, h2, h3⟩ := bgn_spec t p
  constructor
  · intro h
    have := count_none h1 hp h2
    rw [h] at this
    simpa using this
  · intro h
    by_cases q : bgn t p = 0
    · exact q
    · have := row_back hp (by omega); omega
theorem e_colN (t : List Nat) (p : Nat) (h : t.length ≤ 100000) (hp : p ≤ t.length) : p_column_of [.str t, .int (p : Int)] = .ok (.int (((p - bgn t p : Nat)) : Int)) := by
  obtain ⟨h1, h2, h3⟩ := bgn_spec t p
  rw [e_col t p (bgn t p) h hp h3 h1 h2]
  congr 2; omega

/-! ### words -/
def wd (c : Nat) : Bool := decide ((97 ≤ c ∧ c ≤ 122) ∨ (65 ≤ c ∧ c ≤ 90) ∨ (48 ≤ c ∧ c ≤ 57))
theorem mem_lt : ∀ c ∈ ks_76658d, wd c = true := by decide +kernel
theorem lt_mem : ∀ c < 123, wd c = true → c ∈ ks_76658d := by decide +kernel
theorem mem_wd (c : Nat) : decide (c ∈ ks_76658d) = wd c := by
  by_cases h : c ∈ ks_76658d
  · rw [mem_lt c h, decide_eq_true h]
  · rw [decide_eq_false h]
    cases hw : wd c with
    | false => rfl
    | true =>
      have h' := of_decide_eq_true hw
      exact absurd (lt_mem c (by omega) hw) h
/-- a word sign stands at i -/
def W (t : List Nat) (i : Int) : Bool := decide (0 ≤ i ∧ i < t.length) && wd (t.getD i.toNat 0)
theorem W_out {t : List Nat} {i : Int} (h : ¬ (0 ≤ i ∧ i < t.length)) : W t i = false := by unfold W; rw [decide_eq_false h]; rfl
theorem W_in {t : List Nat} {i : Int} (h : 0 ≤ i ∧ i < t.length) : W t i = wd (t.getD i.toNat 0) := by unfold W; rw [decide_eq_true h]; rfl
theorem e_hws (t : List Nat) (i : Int) (h : t.length ≤ 1000) : p_has_word_sign [.str t, .int i] = .ok (.bl (W t i)) := by
  rw [u_has_word_sign]; unfold b_has_word_sign
  by_cases q1 : 0 ≤ i
  · by_cases q2 : i < t.length
    · simp -implicitDefEqProofs (disch := first | omega | (simp only [List.length_map, List.length_append, List.length_cons, List.length_nil, List.length_take, List.length_drop, repS_len, rngL_len, List.length_range, List.length_reverse]; done) | (simp only [List.length_map, List.length_append, List.length_cons, List.length_nil, List.length_take, List.length_drop, repS_len, rngL_len, List.length_range, List.length_reverse]; omega)) only [mVar_ev, mVarR_ev, getV_val, getR_val, getR_own, mC_ev, mOp_ev, mOpL_ev, mT_ev, asB_bl, mAnd_ev, mOr_ev, mNot_ev, mAndV_ev, mOrV_ev, mNotV_ev, mIf_ev, mNil_ev, mCons_ev, mTup_ev, mLst_ev, mCall_ev, mPn_ev, mPs_ev, asI_int, mSl_ev, mSlL_ev, asL_lst, asL_scr, asTp_tup, asSt_str, R_ite, mWalk_ev, mLe_ev, mNeg_ev, mSeq_ev, mSkip_ev, bind_nx, bind_rt, bind_rtL, bind_bk, bind_ct, bind_ex, bind_ite, lift_ok, lift_exc, lift_ite, mAsg_ev, mAsgL_ev, mDrop_ev, mRet_ev, mRetL_ev, mRetN_ev, mRetOwn_ev, getO_own, mIfS_ev, mSet1_ev, onO_own, onO_val, mAppend_ev, putO_own, mAsgG_ev, optSO_some, gSet_ev, gsNil_ev, gsCons_ev, obind_some, gTupM_1, gTupM_2, gTupM_3, gTupM_4, gTupM_5, gTupM_6, mFor_ev, retD_nx, retD_rt, retD_rtL, retD_ex, retD_ite, retLs_rtL, retLs_ex, retLs_ite, nth_zero, nth_succ, set_zero, set_succ, add_int, add_str, add_lst, lcat_lst, sub_int', neg_int', lt_int', le_int', gt_int', ge_int', mod_int', fdiv_int, mul_int', mul_str', isN_non, isN_int, notN_non, notN_int, eq_int', ne_int', eq_str', ne_str', eq_bl', ne_bl', len_str', len_lst, len_tup, len_scr, max_int, min_int, sl_str', sl_lst, sl_scr, lsl_lst, lsl_scr, ix_str', ix_lst, ix_tup', ix_scr, range1_ok, range2_ok, range3_ok, mMeth_ev, onStr_str, mComp_ev, mCh_ev, wipeE_nil, wipeE_cons, mYes_ev, int_int, int_bl, asW_lst, asW_tup, asW_scr, asW_str, lt_str', le_str', gt_str', ge_str', mRaise_ev, sum_ints, all_bls, any_bls, list_lst, list_tup, list_scr, sorted_ints', g_find_ev, g_find3_ev, g_find4_ev, g_rfind_ev, g_rfind4_ev, g_count_ev, g_count3_ev, g_count4_ev, g_startswith_ev, g_endswith_ev, Int.reduceToNat, List.getD_cons_zero, List.getD_cons_succ, List.length_map, List.length_reverse, Int.zero_mul, Int.mul_zero, Int.add_zero, Int.mul_one, nc0, nc1, nc2, nc3, nc4, nc5, nc6, nc7, nc8, nc9, nc10, nc11, nc12, nc13, List.cons_append, List.nil_append, decide_true, decide_false, not_false_eq_true, not_true_eq_false, mCallR_ev, retLE_rtL, retDE_rt, flatR_bl, flatR_int, flatR_str, flatR_non, flatR_exc, getOwn_own, mMut0_ev, mSetIx_ev, putIx_ok, rev_lst, lrep_ev, if_small, if_small', rngL_len, endS_nx, endS_rt, in_sign, notIn_sign, isN_str, notN_str, isN_tup, notN_tup, isi_int_int, isi_int_bool, isi_bl_bool, isi_bl_int, isi_str_str, isi_tup_tup, isi_lst_lst, isi_non_int, isi_non_tup, _root_.FL.R.ok_bind, _root_.FL.R.exc_bind, _root_.FL.R.stuck_bind, _root_.FL.R.pure_eq, List.append_nil, List.length_cons, List.length_nil, Nat.zero_add, Nat.reduceAdd, Nat.reduceLeDiff, Nat.reduceLT, and_self, and_true, true_and, nextK_nx, nextK_ct, nextK_bk, nextK_rt, nextK_rtL, nextK_ex, nextK_ite, decide_eq_true_eq, if_true, if_false, ite_true, ite_false, Bool.true_eq_false, Bool.false_eq_true, Bool.not_true, Bool.not_false, reduceIte, Bool.not_eq_true', decide_eq_false_iff_not, q1, q2, mem_wd]
      rw [W_in ⟨q1, q2⟩]
    · simp -implicitDefEqProofs (disch := first | omega | (simp only [List.length_map, List.length_append, List.length_cons, List.length_nil, List.length_take, List.length_drop, repS_len, rngL_len, List.length_range, List.length_reverse]; done) | (simp only [List.length_map, List.length_append, List.length_cons, List.length_nil, List.length_take, List.length_drop, repS_len, rngL_len, List.length_range, List.length_reverse]; omega)) only [mVar_ev, mVarR_ev, getV_val, getR_val, getR_own, mC_ev, mOp_ev, mOpL_ev, mT_ev, asB_bl, mAnd_ev, mOr_ev, mNot_ev, mAndV_ev, mOrV_ev, mNotV_ev, mIf_ev, mNil_ev, mCons_ev, mTup_ev, mLst_ev, mCall_ev, mPn_ev, mPs_ev, asI_int, mSl_ev, mSlL_ev, asL_lst, asL_scr, asTp_tup, asSt_str, R_ite, mWalk_ev, mLe_ev, mNeg_ev, mSeq_ev, mSkip_ev, bind_nx, bind_rt, bind_rtL, bind_bk, bind_ct, bind_ex, bind_ite, lift_ok, lift_exc, lift_ite, mAsg_ev, mAsgL_ev, mDrop_ev, mRet_ev, mRetL_ev, mRetN_ev, mRetOwn_ev, getO_own, mIfS_ev, mSet1_ev, onO_own, onO_val, mAppend_ev, putO_own, mAsgG_ev, optSO_some, gSet_ev, gsNil_ev, gsCons_ev, obind_some, gTupM_1, gTupM_2, gTupM_3, gTupM_4, gTupM_5, gTupM_6, mFor_ev, retD_nx, retD_rt, retD_rtL, retD_ex, retD_ite, retLs_rtL, retLs_ex, retLs_ite, nth_zero, nth_succ, set_zero, set_succ, add_int, add_str, add_lst, lcat_lst, sub_int', neg_int', lt_int', le_int', gt_int', ge_int', mod_int', fdiv_int, mul_int', mul_str', isN_non, isN_int, notN_non, notN_int, eq_int', ne_int', eq_str', ne_str', eq_bl', ne_bl', len_str', len_lst, len_tup, len_scr, max_int, min_int, sl_str', sl_lst, sl_scr, lsl_lst, lsl_scr, ix_str', ix_lst, ix_tup', ix_scr, range1_ok, range2_ok, range3_ok, mMeth_ev, onStr_str, mComp_ev, mCh_ev, wipeE_nil, wipeE_cons, mYes_ev, int_int, int_bl, asW_lst, asW_tup, asW_scr, asW_str, lt_str', le_str', gt_str', ge_str', mRaise_ev, sum_ints, all_bls, any_bls, list_lst, list_tup, list_scr, sorted_ints', g_find_ev, g_find3_ev, g_find4_ev, g_rfind_ev, g_rfind4_ev, g_count_ev, g_count3_ev, g_count4_ev, g_startswith_ev, g_endswith_ev, Int.reduceToNat, List.getD_cons_zero, List.getD_cons_succ, List.length_map, List.length_reverse, Int.zero_mul, Int.mul_zero, Int.add_zero, Int.mul_one, nc0, nc1, nc2, nc3, nc4, nc5, nc6, nc7, nc8, nc9, nc10, nc11, nc12, nc13, List.cons_append, List.nil_append, decide_true, decide_false, not_false_eq_true, not_true_eq_false, mCallR_ev, retLE_rtL, retDE_rt, flatR_bl, flatR_int, flatR_str, flatR_non, flatR_exc, getOwn_own, mMut0_ev, mSetIx_ev, putIx_ok, rev_lst, lrep_ev, if_small, if_small', rngL_len, endS_nx, endS_rt, in_sign, notIn_sign, isN_str, notN_str, isN_tup, notN_tup, isi_int_int, isi_int_bool, isi_bl_bool, isi_bl_int, isi_str_str, isi_tup_tup, isi_lst_lst, isi_non_int, isi_non_tup, _root_.FL.R.ok_bind, _root_.FL.R.exc_bind, _root_.FL.R.stuck_bind, _root_.FL.R.pure_eq, List.append_nil, List.length_cons, List.length_nil, Nat.zero_add, Nat.reduceAdd, Nat.reduceLeDiff, Nat.reduceLT, and_self, and_true, true_and, nextK_nx, nextK_ct, nextK_bk, nextK_rt, nextK_rtL, nextK_ex, nextK_ite, decide_eq_true_eq, if_true, if_false, ite_true, ite_false, Bool.true_eq_false, Bool.false_eq_true, Bool.not_true, Bool.not_false, reduceIte, Bool.not_eq_true', decide_eq_false_iff_not, q1, q2]
      rw [W_out (by omega)]
  · simp -implicitDefEqProofs (disch := first | omega | (simp only [List.length_map, List.length_append, List.length_cons, List.length_nil, List.length_take, List.length_drop, repS_len, rngL_len, List.length_range, List.length_reverse]; done) | (simp only [List.length_map, List.length_append, List.length_cons, List.length_nil, List.length_take, List.length_drop, repS_len, rngL_len, List.length_range, List.length_reverse]; omega)) only [mVar_ev, mVarR_ev, getV_val, getR_val, getR_own, mC_ev, mOp_ev, mOpL_ev, mT_ev, asB_bl, mAnd_ev, mOr_ev, mNot_ev, mAndV_ev, mOrV_ev, mNotV_ev, mIf_ev, mNil_ev, mCons_ev, mTup_ev, mLst_ev, mCall_ev, mPn_ev, mPs_ev, asI_int, mSl_ev, mSlL_ev, asL_lst, asL_scr, asTp_tup, asSt_str, R_ite, mWalk_ev, mLe_ev, mNeg_ev, mSeq_ev, mSkip_ev, bind_nx, bind_rt, bind_rtL, bind_bk, bind_ct, bind_ex, bind_ite, lift_ok, lift_exc, lift_ite, mAsg_ev, mAsgL_ev, mDrop_ev, mRet_ev, mRetL_ev, mRetN_ev, mRetOwn_ev, getO_own, mIfS_ev, mSet1_ev, onO_own, onO_val, mAppend_ev, putO_own, mAsgG_ev, optSO_some, gSet_ev, gsNil_ev, gsCons_ev, obind_some, gTupM_1, gTupM_2, gTupM_3, gTupM_4, gTupM_5, gTupM_6, mFor_ev, retD_nx, retD_rt, retD_rtL, retD_ex, retD_ite, retLs_rtL, retLs_ex, retLs_ite, nth_zero, nth_succ, set_zero, set_succ, add_int, add_str, add_lst, lcat_lst, sub_int', neg_int', lt_int', le_int', gt_int', ge_int', mod_int', fdiv_int, mul_int', mul_str', isN_non, isN_int, notN_non, notN_int, eq_int', ne_int', eq_str', ne_str', eq_bl', ne_bl', len_str', len_lst, len_tup, len_scr, max_int, min_int, sl_str', sl_lst, sl_scr, lsl_lst, lsl_scr, ix_str', ix_lst, ix_tup', ix_scr, range1_ok, range2_ok, range3_ok, mMeth_ev, onStr_str, mComp_ev, mCh_ev, wipeE_nil, wipeE_cons, mYes_ev, int_int, int_bl, asW_lst, asW_tup, asW_scr, asW_str, lt_str', le_str', gt_str', ge_str', mRaise_ev, sum_ints, all_bls, any_bls, list_lst, list_tup, list_scr, sorted_ints', g_find_ev, g_find3_ev, g_find4_ev, g_rfind_ev, g_rfind4_ev, g_count_ev, g_count3_ev, g_count4_ev, g_startswith_ev, g_endswith_ev, Int.reduceToNat, List.getD_cons_zero, List.getD_cons_succ, List.length_map, List.length_reverse, Int.zero_mul, Int.mul_zero, Int.add_zero, Int.mul_one, nc0, nc1, nc2, nc3, nc4, nc5, nc6, nc7, nc8, nc9, nc10, nc11, nc12, nc13, List.cons_append, List.nil_append, decide_true, decide_false, not_false_eq_true, not_true_eq_false, mCallR_ev, retLE_rtL, retDE_rt, flatR_bl, flatR_int, flatR_str, flatR_non, flatR_exc, getOwn_own, mMut0_ev, mSetIx_ev, putIx_ok, rev_lst, lrep_ev, if_small, if_small', rngL_len, endS_nx, endS_rt, in_sign, notIn_sign, isN_str, notN_str, isN_tup, notN_tup, isi_int_int, isi_int_bool, isi_bl_bool, isi_bl_int, isi_str_str, isi_tup_tup, isi_lst_lst, isi_non_int, isi_non_tup, _root_.FL.R.ok_bind, _root_.FL.R.exc_bind, _root_.FL.R.stuck_bind, _root_.FL.R.pure_eq, List.append_nil, List.length_cons, List.length_nil, Nat.zero_add, Nat.reduceAdd, Nat.reduceLeDiff, Nat.reduceLT, and_self, and_true, true_and, nextK_nx, nextK_ct, nextK_bk, nextK_rt, nextK_rtL, nextK_ex, nextK_ite, decide_eq_true_eq, if_true, if_false, ite_true, ite_false, Bool.true_eq_false, Bool.false_eq_true, Bool.not_true, Bool.not_false, reduceIte, Bool.not_eq_true', decide_eq_false_iff_not, q1]
    rw [W_out (by omega)]
theorem e_begins (t : List Nat) (i : Int) (h : t.length ≤ 1000) : p_begins [.str t, .int i] = .ok (.bl (W t i && !W t (i - 1))) := by
  rw [u_begins]; unfold b_begins
  simp -implicitDefEqProofs (disch := first | omega | (simp only [List.length_map, List.length_append, List.length_cons, List.length_nil, List.length_take, List.length_drop, repS_len, rngL_len, List.length_range, List.length_reverse]; done) | (simp only [List.length_map, List.length_append, List.length_cons, List.length_nil, List.length_take, List.length_drop, repS_len, rngL_len, List.length_range, List.length_reverse]; omega)) only [mVar_ev, mVarR_ev, getV_val, getR_val, getR_own, mC_ev, mOp_ev, mOpL_ev, mT_ev, asB_bl, mAnd_ev, mOr_ev, mNot_ev, mAndV_ev, mOrV_ev, mNotV_ev, mIf_ev, mNil_ev, mCons_ev, mTup_ev, mLst_ev, mCall_ev, mPn_ev, mPs_ev, asI_int, mSl_ev, mSlL_ev, asL_lst, asL_scr, asTp_tup, asSt_str, R_ite, mWalk_ev, mLe_ev, mNeg_ev, mSeq_ev, mSkip_ev, bind_nx, bind_rt, bind_rtL, bind_bk, bind_ct, bind_ex, bind_ite, lift_ok, lift_exc, lift_ite, mAsg_ev, mAsgL_ev, mDrop_ev, mRet_ev, mRetL_ev, mRetN_ev, mRetOwn_ev, getO_own, mIfS_ev, mSet1_ev, onO_own, onO_val, mAppend_ev, putO_own, mAsgG_ev, optSO_some, gSet_ev, gsNil_ev, gsCons_ev, obind_some, gTupM_1, gTupM_2, gTupM_3, gTupM_4, gTupM_5, gTupM_6, mFor_ev, retD_nx, retD_rt, retD_rtL, retD_ex, retD_ite, retLs_rtL, retLs_ex, retLs_ite, nth_zero, nth_succ, set_zero, set_succ, add_int, add_str, add_lst, lcat_lst, sub_int', neg_int', lt_int', le_int', gt_int', ge_int', mod_int', fdiv_int, mul_int', mul_str', isN_non, isN_int, notN_non, notN_int, eq_int', ne_int', eq_str', ne_str', eq_bl', ne_bl', len_str', len_lst, len_tup, len_scr, max_int, min_int, sl_str', sl_lst, sl_scr, lsl_lst, lsl_scr, ix_str', ix_lst, ix_tup', ix_scr, range1_ok, range2_ok, range3_ok, mMeth_ev, onStr_str, mComp_ev, mCh_ev, wipeE_nil, wipeE_cons, mYes_ev, int_int, int_bl, asW_lst, asW_tup, asW_scr, asW_str, lt_str', le_str', gt_str', ge_str', mRaise_ev, sum_ints, all_bls, any_bls, list_lst, list_tup, list_scr, sorted_ints', g_find_ev, g_find3_ev, g_find4_ev, g_rfind_ev, g_rfind4_ev, g_count_ev, g_count3_ev, g_count4_ev, g_startswith_ev, g_endswith_ev, Int.reduceToNat, List.getD_cons_zero, List.getD_cons_succ, List.length_map, List.length_reverse, Int.zero_mul, Int.mul_zero, Int.add_zero, Int.mul_one, nc0, nc1, nc2, nc3, nc4, nc5, nc6, nc7, nc8, nc9, nc10, nc11, nc12, nc13, List.cons_append, List.nil_append, decide_true, decide_false, not_false_eq_true, not_true_eq_false, mCallR_ev, retLE_rtL, retDE_rt, flatR_bl, flatR_int, flatR_str, flatR_non, flatR_exc, getOwn_own, mMut0_ev, mSetIx_ev, putIx_ok, rev_lst, lrep_ev, if_small, if_small', rngL_len, endS_nx, endS_rt, in_sign, notIn_sign, isN_str, notN_str, isN_tup, notN_tup, isi_int_int, isi_int_bool, isi_bl_bool, isi_bl_int, isi_str_str, isi_tup_tup, isi_lst_lst, isi_non_int, isi_non_tup, _root_.FL.R.ok_bind, _root_.FL.R.exc_bind, _root_.FL.R.stuck_bind, _root_.FL.R.pure_eq, List.append_nil, List.length_cons, List.length_nil, Nat.zero_add, Nat.reduceAdd, Nat.reduceLeDiff, Nat.reduceLT, and_self, and_true, true_and, nextK_nx, nextK_ct, nextK_bk, nextK_rt, nextK_rtL, nextK_ex, nextK_ite, decide_eq_true_eq, if_true, if_false, ite_true, ite_false, Bool.true_eq_false, Bool.false_eq_true, Bool.not_true, Bool.not_false, reduceIte, Bool.not_eq_true', decide_eq_false_iff_not, e_hws]
  cases W t i <;> simp -implicitDefEqProofs (disch := first | omega | (simp only [List.length_map, List.length_append, List.length_cons, List.length_nil, List.length_take, List.length_drop, repS_len, rngL_len, List.length_range, List.length_reverse]; done) | (simp only [List.length_map, List.length_append, List.length_cons, List.length_nil, List.length_take, List.length_drop, repS_len, rngL_len, List.length_range, List.length_reverse]; omega)) only [mVar_ev, mVarR_ev, getV_val, getR_val, getR_own, mC_ev, mOp_ev, mOpL_ev, mT_ev, asB_bl, mAnd_ev, mOr_ev, mNot_ev, mAndV_ev, mOrV_ev, mNotV_ev, mIf_ev, mNil_ev, mCons_ev, mTup_ev, mLst_ev, mCall_ev, mPn_ev, mPs_ev, asI_int, mSl_ev, mSlL_ev, asL_lst, asL_scr, asTp_tup, asSt_str, R_ite, mWalk_ev, mLe_ev, mNeg_ev, mSeq_ev, mSkip_ev, bind_nx, bind_rt, bind_rtL, bind_bk, bind_ct, bind_ex, bind_ite, lift_ok, lift_exc, lift_ite, mAsg_ev, mAsgL_ev, mDrop_ev, mRet_ev, mRetL_ev, mRetN_ev, mRetOwn_ev, getO_own, mIfS_ev, mSet1_ev, onO_own, onO_val, mAppend_ev, putO_own, mAsgG_ev, optSO_some, gSet_ev, gsNil_ev, gsCons_ev, obind_some, gTupM_1, gTupM_2, gTupM_3, gTupM_4, gTupM_5, gTupM_6, mFor_ev, retD_nx, retD_rt, retD_rtL, retD_ex, retD_ite, retLs_rtL, retLs_ex, retLs_ite, nth_zero, nth_succ, set_zero, set_succ, add_int, add_str, add_lst, lcat_lst, sub_int', neg_int', lt_int', le_int', gt_int', ge_int', mod_int', fdiv_int, mul_int', mul_str', isN_non, isN_int, notN_non, notN_int, eq_int', ne_int', eq_str', ne_str', eq_bl', ne_bl', len_str', len_lst, len_tup, len_scr, max_int, min_int, sl_str', sl_lst, sl_scr, lsl_lst, lsl_scr, ix_str', ix_lst, ix_tup', ix_scr, range1_ok, range2_ok, range3_ok, mMeth_ev, onStr_str, mComp_ev, mCh_ev, wipeE_nil, wipeE_cons, mYes_ev, int_int, int_bl, asW_lst, asW_tup, asW_scr, asW_str, lt_str', le_str', gt_str', ge_str', mRaise_ev, sum_ints, all_bls, any_bls, list_lst, list_tup, list_scr, sorted_ints', g_find_ev, g_find3_ev, g_find4_ev, g_rfind_ev, g_rfind4_ev, g_count_ev, g_count3_ev, g_count4_ev, g_startswith_ev, g_endswith_ev, Int.reduceToNat, List.getD_cons_zero, List.getD_cons_succ, List.length_map, List.length_reverse, Int.zero_mul, Int.mul_zero, Int.add_zero, Int.mul_one, nc0, nc1, nc2, nc3, nc4, nc5, nc6, nc7, nc8, nc9, nc10, nc11, nc12, nc13, List.cons_append, List.nil_append, decide_true, decide_false, not_false_eq_true, not_true_eq_false, mCallR_ev, retLE_rtL, retDE_rt, flatR_bl, flatR_int, flatR_str, flatR_non, flatR_exc, getOwn_own, mMut0_ev, mSetIx_ev, putIx_ok, rev_lst, lrep_ev, if_small, if_small', rngL_len, endS_nx, endS_rt, in_sign, notIn_sign, isN_str, notN_str, isN_tup, notN_tup, isi_int_int, isi_int_bool, isi_bl_bool, isi_bl_int, isi_str_str, isi_tup_tup, isi_lst_lst, isi_non_int, isi_non_tup, _root_.FL.R.ok_bind, _root_.FL.R.exc_bind, _root_.FL.R.stuck_bind, _root_.FL.R.pure_eq, List.append_nil, List.length_cons, List.length_nil, Nat.zero_add, Nat.reduceAdd, Nat.reduceLeDiff, Nat.reduceLT, and_self, and_true, true_and, nextK_nx, nextK_ct, nextK_bk, nextK_rt, nextK_rtL, nextK_ex, nextK_ite, decide_eq_true_eq, if_true, if_false, ite_true, ite_false, Bool.true_eq_false, Bool.false_eq_true, Bool.not_true, Bool.not_false, reduceIte, Bool.not_eq_true', decide_eq_false_iff_not]
  all_goals rfl
theorem e_ends (t : List Nat) (i : Int) (h : t.length ≤ 1000) : p_ends [.str t, .int i] = .ok (.bl (W t (i - 1) && !W t i)) := by
  rw [u_ends]; unfold b_ends
  simp -implicitDefEqProofs (disch := first | omega | (simp only [List.length_map, List.length_append, List.length_cons, List.length_nil, List.length_take, List.length_drop, repS_len, rngL_len, List.length_range, List.length_reverse]; done) | (simp only [List.length_map, List.length_append, List.length_cons, List.length_nil, List.length_take, List.length_drop, repS_len, rngL_len, List.length_range, List.length_reverse]; omega)) only [mVar_ev, mVarR_ev, getV_val, getR_val, getR_own, mC_ev, mOp_ev, mOpL_ev, mT_ev, asB_bl, mAnd_ev, mOr_ev, mNot_ev, mAndV_ev, mOrV_ev, mNotV_ev, mIf_ev, mNil_ev, mCons_ev, mTup_ev, mLst_ev, mCall_ev, mPn_ev, mPs_ev, asI_int, mSl_ev, mSlL_ev, asL_lst, asL_scr, asTp_tup, asSt_str, R_ite, mWalk_ev, mLe_ev, mNeg_ev, mSeq_ev, mSkip_ev, bind_nx, bind_rt, bind_rtL, bind_bk, bind_ct, bind_ex, bind_ite, lift_ok, lift_exc, lift_ite, mAsg_ev, mAsgL_ev, mDrop_ev, mRet_ev, mRetL_ev, mRetN_ev, mRetOwn_ev, getO_own, mIfS_ev, mSet1_ev, onO_own, onO_val, mAppend_ev, putO_own, mAsgG_ev, optSO_some, gSet_ev, gsNil_ev, gsCons_ev, obind_some, gTupM_1, gTupM_2, gTupM_3, gTupM_4, gTupM_5, gTupM_6, mFor_ev, retD_nx, retD_rt, retD_rtL, retD_ex, retD_ite, retLs_rtL, retLs_ex, retLs_ite, nth_zero, nth_succ, set_zero, set_succ, add_int, add_str, add_lst, lcat_lst, sub_int', neg_int', lt_int', le_int', gt_int', ge_int', mod_int', fdiv_int, mul_int', mul_str', isN_non, isN_int, notN_non, notN_int, eq_int', ne_int', eq_str', ne_str', eq_bl', ne_bl', len_str', len_lst, len_tup, len_scr, max_int, min_int, sl_str', sl_lst, sl_scr, lsl_lst, lsl_scr, ix_str', ix_lst, ix_tup', ix_scr, range1_ok, range2_ok, range3_ok, mMeth_ev, onStr_str, mComp_ev, mCh_ev, wipeE_nil, wipeE_cons, mYes_ev, int_int, int_bl, asW_lst, asW_tup, asW_scr, asW_str, lt_str', le_str', gt_str', ge_str', mRaise_ev, sum_ints, all_bls, any_bls, list_lst, list_tup, list_scr, sorted_ints', g_find_ev, g_find3_ev, g_find4_ev, g_rfind_ev, g_rfind4_ev, g_count_ev, g_count3_ev, g_count4_ev, g_startswith_ev, g_endswith_ev, Int.reduceToNat, List.getD_cons_zero, List.getD_cons_succ, List.length_map, List.length_reverse, Int.zero_mul, Int.mul_zero, Int.add_zero, Int.mul_one, nc0, nc1, nc2, nc3, nc4, nc5, nc6, nc7, nc8, nc9, nc10, nc11, nc12, nc13, List.cons_append, List.nil_append, decide_true, decide_false, not_false_eq_true, not_true_eq_false, mCallR_ev, retLE_rtL, retDE_rt, flatR_bl, flatR_int, flatR_str, flatR_non, flatR_exc, getOwn_own, mMut0_ev, mSetIx_ev, putIx_ok, rev_lst, lrep_ev, if_small, if_small', rngL_len, endS_nx, endS_rt, in_sign, notIn_sign, isN_str, notN_str, isN_tup, notN_tup, isi_int_int, isi_int_bool, isi_bl_bool, isi_bl_int, isi_str_str, isi_tup_tup, isi_lst_lst, isi_non_int, isi_non_tup, _root_.FL.R.ok_bind, _root_.FL.R.exc_bind, _root_.FL.R.stuck_bind, _root_.FL.R.pure_eq, List.append_nil, List.length_cons, List.length_nil, Nat.zero_add, Nat.reduceAdd, Nat.reduceLeDiff, Nat.reduceLT, and_self, and_true, true_and, nextK_nx, nextK_ct, nextK_bk, nextK_rt, nextK_rtL, nextK_ex, nextK_ite, decide_eq_true_eq, if_true, if_false, ite_true, ite_false, Bool.true_eq_false, Bool.false_eq_true, Bool.not_true, Bool.not_false, reduceIte, Bool.not_eq_true', decide_eq_false_iff_not, e_hws]
  cases W t (i - 1) <;> simp -implicitDefEqProofs (disch := first | omega | (simp only [List.length_map, List.length_append, List.length_cons, List.length_nil, List.length_take, List.length_drop, repS_len, rngL_len, List.length_range, List.length_reverse]; done) | (simp only [List.length_map, List.length_append, List.length_cons, List.length_nil, List.length_take, List.length_drop, repS_len, rngL_len, List.length_range, List.length_reverse]; omega)) only [mVar_ev, mVarR_ev, getV_val, getR_val, getR_own, mC_ev, mOp_ev, mOpL_ev, mT_ev, asB_bl, mAnd_ev, mOr_ev, mNot_ev, mAndV_ev, mOrV_ev, mNotV_ev, mIf_ev, mNil_ev, mCons_ev, mTup_ev, mLst_ev, mCall_ev, mPn_ev, mPs_ev, asI_int, mSl_ev, mSlL_ev, asL_lst, asL_scr, asTp_tup, asSt_str, R_ite, mWalk_ev, mLe_ev, mNeg_ev, mSeq_ev, mSkip_ev, bind_nx, bind_rt, bind_rtL, bind_bk, bind_ct, bind_ex, bind_ite, lift_ok, lift_exc, lift_ite, mAsg_ev, mAsgL_ev, mDrop_ev, mRet_ev, mRetL_ev, mRetN_ev, mRetOwn_ev, getO_own, mIfS_ev, mSet1_ev, onO_own, onO_val, mAppend_ev, putO_own, mAsgG_ev, optSO_some, gSet_ev, gsNil_ev, gsCons_ev, obind_some, gTupM_1, gTupM_2, gTupM_3, gTupM_4, gTupM_5, gTupM_6, mFor_ev, retD_nx, retD_rt, retD_rtL, retD_ex, retD_ite, retLs_rtL, retLs_ex, retLs_ite, nth_zero, nth_succ, set_zero, set_succ, add_int, add_str, add_lst, lcat_lst, sub_int', neg_int', lt_int', le_int', gt_int', ge_int', mod_int', fdiv_int, mul_int', mul_str', isN_non, isN_int, notN_non, notN_int, eq_int', ne_int', eq_str', ne_str', eq_bl', ne_bl', len_str', len_lst, len_tup, len_scr, max_int, min_int, sl_str', sl_lst, sl_scr, lsl_lst, lsl_scr, ix_str', ix_lst, ix_tup', ix_scr, range1_ok, range2_ok, range3_ok, mMeth_ev, onStr_str, mComp_ev, mCh_ev, wipeE_nil, wipeE_cons, mYes_ev, int_int, int_bl, asW_lst, asW_tup, asW_scr, asW_str, lt_str', le_str', gt_str', ge_str', mRaise_ev, sum_ints, all_bls, any_bls, list_lst, list_tup, list_scr, sorted_ints', g_find_ev, g_find3_ev, g_find4_ev, g_rfind_ev, g_rfind4_ev, g_count_ev, g_count3_ev, g_count4_ev, g_startswith_ev, g_endswith_ev, Int.reduceToNat, List.getD_cons_zero, List.getD_cons_succ, List.length_map, List.length_reverse, Int.zero_mul, Int.mul_zero, Int.add_zero, Int.mul_one, nc0, nc1, nc2, nc3, nc4, nc5, nc6, nc7, nc8, nc9, nc10, nc11, nc12, nc13, List.cons_append, List.nil_append, decide_true, decide_false, not_false_eq_true, not_true_eq_false, mCallR_ev, retLE_rtL, retDE_rt, flatR_bl, flatR_int, flatR_str, flatR_non, flatR_exc, getOwn_own, mMut0_ev, mSetIx_ev, putIx_ok, rev_lst, lrep_ev, if_small, if_small', rngL_len, endS_nx, endS_rt, in_sign, notIn_sign, isN_str, notN_str, isN_tup, notN_tup, isi_int_int, isi_int_bool, isi_bl_bool, isi_bl_int, isi_str_str, isi_tup_tup, isi_lst_lst, isi_non_int, isi_non_tup, _root_.FL.R.ok_bind, _root_.FL.R.exc_bind, _root_.FL.R.stuck_bind, _root_.FL.R.pure_eq, List.append_nil, List.length_cons, List.length_nil, Nat.zero_add, Nat.reduceAdd, Nat.reduceLeDiff, Nat.reduceLT, and_self, and_true, true_and, nextK_nx, nextK_ct, nextK_bk, nextK_rt, nextK_rtL, nextK_ex, nextK_ite, decide_eq_true_eq, if_true, if_false, ite_true, ite_false, Bool.true_eq_false, Bool.false_eq_true, Bool.not_true, Bool.not_false, reduceIte, Bool.not_eq_true', decide_eq_false_iff_not]
  all_goals rfl

/-! ### partners -/
def stp (t : List Nat) (o c k : Nat) (d : Int) : Int := if t.getD k 0 = c then (if t.getD k 0 = o then d + 1 else d) - 1 else (if t.getD k 0 = o then d + 1 else d)
/-- upwards from k on, n signs; downwards, from below n on -/
def scn (t : List Nat) (o c : Nat) : Nat → Nat → Int → Option Nat
  | 0, _, _ => none
  | n + 1, k, d => if stp t o c k d = 0 then some k else scn t o c n (k + 1) (stp t o c k d)
def scd (t : List Nat) (o c : Nat) : Nat → Int → Option Nat
  | 0, _ => none
  | n + 1, d => if stp t o c n d = 0 then some n else scd t o c n (stp t o c n d)
theorem scn_lt {t : List Nat} {o c j : Nat} : ∀ {n k : Nat} {d : Int}, scn t o c n k d = some j → k ≤ j ∧ j < k + n
  | 0, k, d, h => by cases h
  | n + 1, k, d, h => by
    unfold scn at h
    split at h
    · cases h; omega
    · have := scn_lt h; omega
theorem scd_lt {t : List Nat} {o c j : Nat} : ∀ {n : Nat} {d : Int}, scd t o c n d = some j → j < n
  | 0, d, h => by cases h
  | n + 1, d, h => by
    unfold scd at h
    split at h
    · cases h; omega
    · have := scd_lt h; omega
def endL (o : Option Nat) (Γ : FL.Env) : SO := match o with
  | some j => .rt (.int (j : Nat))
  | none => .nx Γ
def oD : Option Nat → D
  | some j => .int (j : Nat)
  | none => .non
theorem met_step (t : List Nat) (o c k : Nat) (d : Int) (W : D) (lt : t.length ≤ 600) (hk : k < t.length) : b_met_at_l1 [.val (.str t), .val W, .val (.str [o]), .val (.str [c]), .val (.int d), .val (.int (k : Int))] =
    if stp t o c k d = 0 then .rt (.int (k : Int)) else .nx [.val (.str t), .val W, .val (.str [o]), .val (.str [c]), .val (.int (stp t o c k d)), .val (.int (k : Int))] := by
  unfold b_met_at_l1 stp
  by_cases h1 : t.getD k 0 = o <;> by_cases h2 : t.getD k 0 = c
  · simp -implicitDefEqProofs (disch := first | omega | (simp only [List.length_map, List.length_append, List.length_cons, List.length_nil, List.length_take, List.length_drop, repS_len, rngL_len, List.length_range, List.length_reverse]; done) | (simp only [List.length_map, List.length_append, List.length_cons, List.length_nil, List.length_take, List.length_drop, repS_len, rngL_len, List.length_range, List.length_reverse]; omega)) only [mVar_ev, mVarR_ev, getV_val, getR_val, getR_own, mC_ev, mOp_ev, mOpL_ev, mT_ev, asB_bl, mAnd_ev, mOr_ev, mNot_ev, mAndV_ev, mOrV_ev, mNotV_ev, mIf_ev, mNil_ev, mCons_ev, mTup_ev, mLst_ev, mCall_ev, mPn_ev, mPs_ev, asI_int, mSl_ev, mSlL_ev, asL_lst, asL_scr, asTp_tup, asSt_str, R_ite, mWalk_ev, mLe_ev, mNeg_ev, mSeq_ev, mSkip_ev, bind_nx, bind_rt, bind_rtL, bind_bk, bind_ct, bind_ex, bind_ite, lift_ok, lift_exc, lift_ite, mAsg_ev, mAsgL_ev, mDrop_ev, mRet_ev, mRetL_ev, mRetN_ev, mRetOwn_ev, getO_own, mIfS_ev, mSet1_ev, onO_own, onO_val, mAppend_ev, putO_own, mAsgG_ev, optSO_some, gSet_ev, gsNil_ev, gsCons_ev, obind_some, gTupM_1, gTupM_2, gTupM_3, gTupM_4, gTupM_5, gTupM_6, mFor_ev, retD_nx, retD_rt, retD_rtL, retD_ex, retD_ite, retLs_rtL, retLs_ex, retLs_ite, nth_zero, nth_succ, set_zero, set_succ, add_int, add_str, add_lst, lcat_lst, sub_int', neg_int', lt_int', le_int', gt_int', ge_int', mod_int', fdiv_int, mul_int', mul_str', isN_non, isN_int, notN_non, notN_int, eq_int', ne_int', eq_str', ne_str', eq_bl', ne_bl', len_str', len_lst, len_tup, len_scr, max_int, min_int, sl_str', sl_lst, sl_scr, lsl_lst, lsl_scr, ix_str', ix_lst, ix_tup', ix_scr, range1_ok, range2_ok, range3_ok, mMeth_ev, onStr_str, mComp_ev, mCh_ev, wipeE_nil, wipeE_cons, mYes_ev, int_int, int_bl, asW_lst, asW_tup, asW_scr, asW_str, lt_str', le_str', gt_str', ge_str', mRaise_ev, sum_ints, all_bls, any_bls, list_lst, list_tup, list_scr, sorted_ints', g_find_ev, g_find3_ev, g_find4_ev, g_rfind_ev, g_rfind4_ev, g_count_ev, g_count3_ev, g_count4_ev, g_startswith_ev, g_endswith_ev, Int.reduceToNat, List.getD_cons_zero, List.getD_cons_succ, List.length_map, List.length_reverse, Int.zero_mul, Int.mul_zero, Int.add_zero, Int.mul_one, nc0, nc1, nc2, nc3, nc4, nc5, nc6, nc7, nc8, nc9, nc10, nc11, nc12, nc13, List.cons_append, List.nil_append, decide_true, decide_false, not_false_eq_true, not_true_eq_false, mCallR_ev, retLE_rtL, retDE_rt, flatR_bl, flatR_int, flatR_str, flatR_non, flatR_exc, getOwn_own, mMut0_ev, mSetIx_ev, putIx_ok, rev_lst, lrep_ev, if_small, if_small', rngL_len, endS_nx, endS_rt, in_sign, notIn_sign, isN_str, notN_str, isN_tup, notN_tup, isi_int_int, isi_int_bool, isi_bl_bool, isi_bl_int, isi_str_str, isi_tup_tup, isi_lst_lst, isi_non_int, isi_non_tup, _root_.FL.R.ok_bind, _root_.FL.R.exc_bind, _root_.FL.R.stuck_bind, _root_.FL.R.pure_eq, List.append_nil, List.length_cons, List.length_nil, Nat.zero_add, Nat.reduceAdd, Nat.reduceLeDiff, Nat.reduceLT, and_self, and_true, true_and, nextK_nx, nextK_ct, nextK_bk, nextK_rt, nextK_rtL, nextK_ex, nextK_ite, decide_eq_true_eq, if_true, if_false, ite_true, ite_false, Bool.true_eq_false, Bool.false_eq_true, Bool.not_true, Bool.not_false, reduceIte, Bool.not_eq_true', decide_eq_false_iff_not, List.cons.injEq, and_true, ne_eq, Int.toNat_natCast, eq_true h1, eq_true h2]
  · simp -implicitDefEqProofs (disch := first | omega | (simp only [List.length_map, List.length_append, List.length_cons, List.length_nil, List.length_take, List.length_drop, repS_len, rngL_len, List.length_range, List.length_reverse]; done) | (simp only [List.length_map, List.length_append, List.length_cons, List.length_nil, List.length_take, List.length_drop, repS_len, rngL_len, List.length_range, List.length_reverse]; omega)) only [mVar_ev, mVarR_ev, getV_val, getR_val, getR_own, mC_ev, mOp_ev, mOpL_ev, mT_ev, asB_bl, mAnd_ev, mOr_ev, mNot_ev, mAndV_ev, mOrV_ev, mNotV_ev, mIf_ev, mNil_ev, mCons_ev, mTup_ev, mLst_ev, mCall_ev, mPn_ev, mPs_ev, asI_int, mSl_ev, mSlL_ev, asL_lst, asL_scr, asTp_tup, asSt_str, R_ite, mWalk_ev, mLe_ev, mNeg_ev, mSeq_ev, mSkip_ev, bind_nx, bind_rt, bind_rtL, bind_bk, bind_ct, bind_ex, bind_ite, lift_ok, lift_exc, lift_ite, mAsg_ev, mAsgL_ev, mDrop_ev, mRet_ev, mRetL_ev, mRetN_ev, mRetOwn_ev, getO_own, mIfS_ev, mSet1_ev, onO_own, onO_val, mAppend_ev, putO_own, mAsgG_ev, optSO_some, gSet_ev, gsNil_ev, gsCons_ev, obind_some, gTupM_1, gTupM_2, gTupM_3, gTupM_4, gTupM_5, gTupM_6, mFor_ev, retD_nx, retD_rt, retD_rtL, retD_ex, retD_ite, retLs_rtL, retLs_ex, retLs_ite, nth_zero, nth_succ, set_zero, set_succ, add_int, add_str, add_lst, lcat_lst, sub_int', neg_int', lt_int', le_int', gt_int', ge_int', mod_int', fdiv_int, mul_int', mul_str', isN_non, isN_int, notN_non, notN_int, eq_int', ne_int', eq_str', ne_str', eq_bl', ne_bl', len_str', len_lst, len_tup, len_scr, max_int, min_int, sl_str', sl_lst, sl_scr, lsl_lst, lsl_scr, ix_str', ix_lst, ix_tup', ix_scr, range1_ok, range2_ok, range3_ok, mMeth_ev, onStr_str, mComp_ev, mCh_ev, wipeE_nil, wipeE_cons, mYes_ev, int_int, int_bl, asW_lst, asW_tup, asW_scr, asW_str, lt_str', le_str', gt_str', ge_str', mRaise_ev, sum_ints, all_bls, any_bls, list_lst, list_tup, list_scr, sorted_ints', g_find_ev, g_find3_ev, g_find4_ev, g_rfind_ev, g_rfind4_ev, g_count_ev, g_count3_ev, g_count4_ev, g_startswith_ev, g_endswith_ev, Int.reduceToNat, List.getD_cons_zero, List.getD_cons_succ, List.length_map, List.length_reverse, Int.zero_mul, Int.mul_zero, Int.add_zero, Int.mul_one, nc0, nc1, nc2, nc3, nc4, nc5, nc6, nc7, nc8, nc9, nc10, nc11, nc12, nc13, List.cons_append, List.nil_append, decide_true, decide_false, not_false_eq_true, not_true_eq_false, mCallR_ev, retLE_rtL, retDE_rt, flatR_bl, flatR_int, flatR_str, flatR_non, flatR_exc, getOwn_own, mMut0_ev, mSetIx_ev, putIx_ok, rev_lst, lrep_ev, if_small, if_small', rngL_len, endS_nx, endS_rt, in_sign, notIn_sign, isN_str, notN_str, isN_tup, notN_tup, isi_int_int, isi_int_bool, isi_bl_bool, isi_bl_int, isi_str_str, isi_tup_tup, isi_lst_lst, isi_non_int, isi_non_tup, _root_.FL.R.ok_bind, _root_.FL.R.exc_bind, _root_.FL.R.stuck_bind, _root_.FL.R.pure_eq, List.append_nil, List.length_cons, List.length_nil, Nat.zero_add, Nat.reduceAdd, Nat.reduceLeDiff, Nat.reduceLT, and_self, and_true, true_and, nextK_nx, nextK_ct, nextK_bk, nextK_rt, nextK_rtL, nextK_ex, nextK_ite, decide_eq_true_eq, if_true, if_false, ite_true, ite_false, Bool.true_eq_false, Bool.false_eq_true, Bool.not_true, Bool.not_false, reduceIte, Bool.not_eq_true', decide_eq_false_iff_not, List.cons.injEq, and_true, ne_eq, Int.toNat_natCast, eq_true h1, eq_false h2]
  · simp -implicitDefEqProofs (disch := first | omega | (simp only [List.length_map, List.length_append, List.length_cons, List.length_nil, List.length_take, List.length_drop, repS_len, rngL_len, List.length_range, List.length_reverse]; done) | (simp only [List.length_map, List.length_append, List.length_cons, List.length_nil, List.length_take, List.length_drop, repS_len, rngL_len, List.length_range, List.length_reverse]; omega)) only [mVar_ev, mVarR_ev, getV_val, getR_val, getR_own, mC_ev, mOp_ev, mOpL_ev, mT_ev, asB_bl, mAnd_ev, mOr_ev, mNot_ev, mAndV_ev, mOrV_ev, mNotV_ev, mIf_ev, mNil_ev, mCons_ev, mTup_ev, mLst_ev, mCall_ev, mPn_ev, mPs_ev, asI_int, mSl_ev, mSlL_ev, asL_lst, asL_scr, asTp_tup, asSt_str, R_ite, mWalk_ev, mLe_ev, mNeg_ev, mSeq_ev, mSkip_ev, bind_nx, bind_rt, bind_rtL, bind_bk, bind_ct, bind_ex, bind_ite, lift_ok, lift_exc, lift_ite, mAsg_ev, mAsgL_ev, mDrop_ev, mRet_ev, mRetL_ev, mRetN_ev, mRetOwn_ev, getO_own, mIfS_ev, mSet1_ev, onO_own, onO_val, mAppend_ev, putO_own, mAsgG_ev, optSO_some, gSet_ev, gsNil_ev, gsCons_ev, obind_some, gTupM_1, gTupM_2, gTupM_3, gTupM_4, gTupM_5, gTupM_6, mFor_ev, retD_nx, retD_rt, retD_rtL, retD_ex, retD_ite, retLs_rtL, retLs_ex, retLs_ite, nth_zero, nth_succ, set_zero, set_succ, add_int, add_str, add_lst, lcat_lst, sub_int', neg_int', lt_int', le_int', gt_int', ge_int', mod_int', fdiv_int, mul_int', mul_str', isN_non, isN_int, notN_non, notN_int, eq_int', ne_int', eq_str', ne_str', eq_bl', ne_bl', len_str', len_lst, len_tup, len_scr, max_int, min_int, sl_str', sl_lst, sl_scr, lsl_lst, lsl_scr, ix_str', ix_lst, ix_tup', ix_scr, range1_ok, range2_ok, range3_ok, mMeth_ev, onStr_str, mComp_ev, mCh_ev, wipeE_nil, wipeE_cons, mYes_ev, int_int, int_bl, asW_lst, asW_tup, asW_scr, asW_str, lt_str', le_str', gt_str', ge_str', mRaise_ev, sum_ints, all_bls, any_bls, list_lst, list_tup, list_scr, sorted_ints', g_find_ev, g_find3_ev, g_find4_ev, g_rfind_ev, g_rfind4_ev, g_count_ev, g_count3_ev, g_count4_ev, g_startswith_ev, g_endswith_ev, Int.reduceToNat, List.getD_cons_zero, List.getD_cons_succ, List.length_map, List.length_reverse, Int.zero_mul, Int.mul_zero, Int.add_zero, Int.mul_one, nc0, nc1, nc2, nc3, nc4, nc5, nc6, nc7, nc8, nc9, nc10, nc11, nc12, nc13, List.cons_append, List.nil_append, decide_true, decide_false, not_false_eq_true, not_true_eq_false, mCallR_ev, retLE_rtL, retDE_rt, flatR_bl, flatR_int, flatR_str, flatR_non, flatR_exc, getOwn_own, mMut0_ev, mSetIx_ev, putIx_ok, rev_lst, lrep_ev, if_small, if_small', rngL_len, endS_nx, endS_rt, in_sign, notIn_sign, isN_str, notN_str, isN_tup, notN_tup, isi_int_int, isi_int_bool, isi_bl_bool, isi_bl_int, isi_str_str, isi_tup_tup, isi_lst_lst, isi_non_int, isi_non_tup, _root_.FL.R.ok_bind, _root_.FL.R.exc_bind, _root_.FL.R.stuck_bind, _root_.FL.R.pure_eq, List.append_nil, List.length_cons, List.length_nil, Nat.zero_add, Nat.reduceAdd, Nat.reduceLeDiff, Nat.reduceLT, and_self, and_true, true_and, nextK_nx, nextK_ct, nextK_bk, nextK_rt, nextK_rtL, nextK_ex, nextK_ite, decide_eq_true_eq, if_true, if_false, ite_true, ite_false, Bool.true_eq_false, Bool.false_eq_true, Bool.not_true, Bool.not_false, reduceIte, Bool.not_eq_true', decide_eq_false_iff_not, List.cons.injEq, and_true, ne_eq, Int.toNat_natCast, eq_false h1, eq_true h2]
  · simp -implicitDefEqProofs (disch := first | omega | (simp only [List.length_map, List.length_append, List.length_cons, List.length_nil, List.length_take, List.length_drop, repS_len, rngL_len, List.length_range, List.length_reverse]; done) | (simp only [List.length_map, List.length_append, List.length_cons, List.length_nil, List.length_take, List.length_drop, repS_len, rngL_len, List.length_range, List.length_reverse]; omega)) only [mVar_ev, mVarR_ev, getV_val, getR_val, getR_own, mC_ev, mOp_ev, mOpL_ev, mT_ev, asB_bl, mAnd_ev, mOr_ev, mNot_ev, mAndV_ev, mOrV_ev, mNotV_ev, mIf_ev, mNil_ev, mCons_ev, mTup_ev, mLst_ev, mCall_ev, mPn_ev, mPs_ev, asI_int, mSl_ev, mSlL_ev, asL_lst, asL_scr, asTp_tup, asSt_str, R_ite, mWalk_ev, mLe_ev, mNeg_ev, mSeq_ev, mSkip_ev, bind_nx, bind_rt, bind_rtL, bind_bk, bind_ct, bind_ex, bind_ite, lift_ok, lift_exc, lift_ite, mAsg_ev, mAsgL_ev, mDrop_ev, mRet_ev, mRetL_ev, mRetN_ev, mRetOwn_ev, getO_own, mIfS_ev, mSet1_ev, onO_own, onO_val, mAppend_ev, putO_own, mAsgG_ev, optSO_some, gSet_ev, gsNil_ev, gsCons_ev, obind_some, gTupM_1, gTupM_2, gTupM_3, gTupM_4, gTupM_5, gTupM_6, mFor_ev, retD_nx, retD_rt, retD_rtL, retD_ex, retD_ite, retLs_rtL, retLs_ex, retLs_ite, nth_zero, nth_succ, set_zero, set_succ, add_int, add_str, add_lst, lcat_lst, sub_int', neg_int', lt_int', le_int', gt_int', ge_int', mod_int', fdiv_int, mul_int', mul_str', isN_non, isN_int, notN_non, notN_int, eq_int', ne_int', eq_str', ne_str', eq_bl', ne_bl', len_str', len_lst, len_tup, len_scr, max_int, min_int, sl_str', sl_lst, sl_scr, lsl_lst, lsl_scr, ix_str', ix_lst, ix_tup', ix_scr, range1_ok, range2_ok, range3_ok, mMeth_ev, onStr_str, mComp_ev, mCh_ev, wipeE_nil, wipeE_cons, mYes_ev, int_int, int_bl, asW_lst, asW_tup, asW_scr, asW_str, lt_str', le_str', gt_str', ge_str', mRaise_ev, sum_ints, all_bls, any_bls, list_lst, list_tup, list_scr, sorted_ints', g_find_ev, g_find3_ev, g_find4_ev, g_rfind_ev, g_rfind4_ev, g_count_ev, g_count3_ev, g_count4_ev, g_startswith_ev, g_endswith_ev, Int.reduceToNat, List.getD_cons_zero, List.getD_cons_succ, List.length_map, List.length_reverse, Int.zero_mul, Int.mul_zero, Int.add_zero, Int.mul_one, nc0, nc1, nc2, nc3, nc4, nc5, nc6, nc7, nc8, nc9, nc10, nc11, nc12, nc13, List.cons_append, List.nil_append, decide_true, decide_false, not_false_eq_true, not_true_eq_false, mCallR_ev, retLE_rtL, retDE_rt, flatR_bl, flatR_int, flatR_str, flatR_non, flatR_exc, getOwn_own, mMut0_ev, mSetIx_ev, putIx_ok, rev_lst, lrep_ev, if_small, if_small', rngL_len, endS_nx, endS_rt, in_sign, notIn_sign, isN_str, notN_str, isN_tup, notN_tup, isi_int_int, isi_int_bool, isi_bl_bool, isi_bl_int, isi_str_str, isi_tup_tup, isi_lst_lst, isi_non_int, isi_non_tup, _root_.FL.R.ok_bind, _root_.FL.R.exc_bind, _root_.FL.R.stuck_bind, _root_.FL.R.pure_eq, List.append_nil, List.length_cons, List.length_nil, Nat.zero_add, Nat.reduceAdd, Nat.reduceLeDiff, Nat.reduceLT, and_self, and_true, true_and, nextK_nx, nextK_ct, nextK_bk, nextK_rt, nextK_rtL, nextK_ex, nextK_ite, decide_eq_true_eq, if_true, if_false, ite_true, ite_false, Bool.true_eq_false, Bool.false_eq_true, Bool.not_true, Bool.not_false, reduceIte, Bool.not_eq_true', decide_eq_false_iff_not, List.cons.injEq, and_true, ne_eq, Int.toNat_natCast, eq_false h1, eq_false h2]
theorem e_met (t : List Nat) (o c : Nat) (W : D) (lt : t.length ≤ 600) : ∀ (n k : Nat) (d : Int) (x : Slot), k + n ≤ t.length → ∃ Γ', forL (gSet 5) b_met_at_l1 (rngL (k : Int) 1 n) [.val (.str t), .val W, .val (.str [o]), .val (.str [c]), .val (.int d), x] = endL (scn t o c n k d) Γ'
  | 0, k, d, x, _ => ⟨_, rfl⟩
  | n + 1, k, d, x, h => by
    rw [rngL_up, forL_set]
    show ∃ Γ', nextK (b_met_at_l1 [.val (.str t), .val W, .val (.str [o]), .val (.str [c]), .val (.int d), .val (.int (k : Int))]) _ = endL (if stp t o c k d = 0 then some k else scn t o c n (k + 1) (stp t o c k d)) Γ'
    rw [met_step t o c k d W lt (by omega)]
    by_cases h3 : stp t o c k d = 0
    · rw [if_pos h3, if_pos h3]; exact ⟨[], rfl⟩
    · rw [if_neg h3, if_neg h3]; exact e_met t o c W lt n (k + 1) _ _ (by omega)
theorem e_metd (t : List Nat) (o c : Nat) (W : D) (lt : t.length ≤ 600) : ∀ (n : Nat) (d : Int) (x : Slot), n ≤ t.length → ∃ Γ', forL (gSet 5) b_met_at_l1 (rngL ((n : Int) - 1) (-1) n) [.val (.str t), .val W, .val (.str [o]), .val (.str [c]), .val (.int d), x] = endL (scd t o c n d) Γ'
  | 0, d, x, _ => ⟨_, rfl⟩
  | n + 1, d, x, h => by
    rw [rngL_down, forL_set]
    show ∃ Γ', nextK (b_met_at_l1 [.val (.str t), .val W, .val (.str [o]), .val (.str [c]), .val (.int d), .val (.int (n : Int))]) _ = endL (if stp t o c n d = 0 then some n else scd t o c n (stp t o c n d)) Γ'
    rw [met_step t o c n d W lt (by omega)]
    by_cases h3 : stp t o c n d = 0
    · rw [if_pos h3, if_pos h3]; exact ⟨[], rfl⟩
    · rw [if_neg h3, if_neg h3]; exact e_metd t o c W lt n _ _ (by omega)
theorem e_met2 (t : List Nat) (o c : Nat) (ds : List D) (Γ : FL.Env) (r : Option Nat)
    (e : forL (gSet 5) b_met_at_l1 ds [.val (.str t), .val (.lst ds), .val (.str [o]), .val (.str [c]), .val (.int 0), .no] = endL r Γ) : p_met_at [.str t, .lst ds, .str [o], .str [c]] = .ok (oD r) := by
  rw [u_met_at]; unfold b_met_at
  simp -implicitDefEqProofs (disch := first | omega | (simp only [List.length_map, List.length_append, List.length_cons, List.length_nil, List.length_take, List.length_drop, repS_len, rngL_len, List.length_range, List.length_reverse]; done) | (simp only [List.length_map, List.length_append, List.length_cons, List.length_nil, List.length_take, List.length_drop, repS_len, rngL_len, List.length_range, List.length_reverse]; omega)) only [mVar_ev, mVarR_ev, getV_val, getR_val, getR_own, mC_ev, mOp_ev, mOpL_ev, mT_ev, asB_bl, mAnd_ev, mOr_ev, mNot_ev, mAndV_ev, mOrV_ev, mNotV_ev, mIf_ev, mNil_ev, mCons_ev, mTup_ev, mLst_ev, mCall_ev, mPn_ev, mPs_ev, asI_int, mSl_ev, mSlL_ev, asL_lst, asL_scr, asTp_tup, asSt_str, R_ite, mWalk_ev, mLe_ev, mNeg_ev, mSeq_ev, mSkip_ev, bind_rt, bind_rtL, bind_bk, bind_ct, bind_ex, bind_ite, lift_ok, lift_exc, lift_ite, mAsg_ev, mAsgL_ev, mDrop_ev, mRet_ev, mRetL_ev, mRetN_ev, mRetOwn_ev, getO_own, mIfS_ev, mSet1_ev, onO_own, onO_val, mAppend_ev, putO_own, mAsgG_ev, optSO_some, gSet_ev, gsNil_ev, gsCons_ev, obind_some, gTupM_1, gTupM_2, gTupM_3, gTupM_4, gTupM_5, gTupM_6, mFor_ev, retD_nx, retD_rt, retD_rtL, retD_ex, retD_ite, retLs_rtL, retLs_ex, retLs_ite, nth_zero, nth_succ, set_zero, set_succ, add_int, add_str, add_lst, lcat_lst, sub_int', neg_int', lt_int', le_int', gt_int', ge_int', mod_int', fdiv_int, mul_int', mul_str', isN_non, isN_int, notN_non, notN_int, eq_int', ne_int', eq_str', ne_str', eq_bl', ne_bl', len_str', len_lst, len_tup, len_scr, max_int, min_int, sl_str', sl_lst, sl_scr, lsl_lst, lsl_scr, ix_str', ix_lst, ix_tup', ix_scr, range1_ok, range2_ok, range3_ok, mMeth_ev, onStr_str, mComp_ev, mCh_ev, wipeE_nil, wipeE_cons, mYes_ev, int_int, int_bl, asW_lst, asW_tup, asW_scr, asW_str, lt_str', le_str', gt_str', ge_str', mRaise_ev, sum_ints, all_bls, any_bls, list_lst, list_tup, list_scr, sorted_ints', g_find_ev, g_find3_ev, g_find4_ev, g_rfind_ev, g_rfind4_ev, g_count_ev, g_count3_ev, g_count4_ev, g_startswith_ev, g_endswith_ev, Int.reduceToNat, List.getD_cons_zero, List.getD_cons_succ, List.length_map, List.length_reverse, Int.zero_mul, Int.mul_zero, Int.add_zero, Int.mul_one, nc0, nc1, nc2, nc3, nc4, nc5, nc6, nc7, nc8, nc9, nc10, nc11, nc12, nc13, List.cons_append, List.nil_append, decide_true, decide_false, not_false_eq_true, not_true_eq_false, mCallR_ev, retLE_rtL, retDE_rt, flatR_bl, flatR_int, flatR_str, flatR_non, flatR_exc, getOwn_own, mMut0_ev, mSetIx_ev, putIx_ok, rev_lst, lrep_ev, if_small, if_small', rngL_len, endS_nx, endS_rt, in_sign, notIn_sign, isN_str, notN_str, isN_tup, notN_tup, isi_int_int, isi_int_bool, isi_bl_bool, isi_bl_int, isi_str_str, isi_tup_tup, isi_lst_lst, isi_non_int, isi_non_tup, _root_.FL.R.ok_bind, _root_.FL.R.exc_bind, _root_.FL.R.stuck_bind, _root_.FL.R.pure_eq, List.append_nil, List.length_cons, List.length_nil, Nat.zero_add, Nat.reduceAdd, Nat.reduceLeDiff, Nat.reduceLT, and_self, and_true, true_and, nextK_nx, nextK_ct, nextK_bk, nextK_rt, nextK_rtL, nextK_ex, nextK_ite, decide_eq_true_eq, if_true, if_false, ite_true, ite_false, Bool.true_eq_false, Bool.false_eq_true, Bool.not_true, Bool.not_false, reduceIte, Bool.not_eq_true', decide_eq_false_iff_not]
  rw [bind_nx]
  simp -implicitDefEqProofs (disch := first | omega | (simp only [List.length_map, List.length_append, List.length_cons, List.length_nil, List.length_take, List.length_drop, repS_len, rngL_len, List.length_range, List.length_reverse]; done) | (simp only [List.length_map, List.length_append, List.length_cons, List.length_nil, List.length_take, List.length_drop, repS_len, rngL_len, List.length_range, List.length_reverse]; omega)) only [mVar_ev, mVarR_ev, getV_val, getR_val, getR_own, mC_ev, mOp_ev, mOpL_ev, mT_ev, asB_bl, mAnd_ev, mOr_ev, mNot_ev, mAndV_ev, mOrV_ev, mNotV_ev, mIf_ev, mNil_ev, mCons_ev, mTup_ev, mLst_ev, mCall_ev, mPn_ev, mPs_ev, asI_int, mSl_ev, mSlL_ev, asL_lst, asL_scr, asTp_tup, asSt_str, R_ite, mWalk_ev, mLe_ev, mNeg_ev, mSeq_ev, mSkip_ev, bind_rt, bind_rtL, bind_bk, bind_ct, bind_ex, bind_ite, lift_ok, lift_exc, lift_ite, mAsg_ev, mAsgL_ev, mDrop_ev, mRet_ev, mRetL_ev, mRetN_ev, mRetOwn_ev, getO_own, mIfS_ev, mSet1_ev, onO_own, onO_val, mAppend_ev, putO_own, mAsgG_ev, optSO_some, gSet_ev, gsNil_ev, gsCons_ev, obind_some, gTupM_1, gTupM_2, gTupM_3, gTupM_4, gTupM_5, gTupM_6, mFor_ev, retD_nx, retD_rt, retD_rtL, retD_ex, retD_ite, retLs_rtL, retLs_ex, retLs_ite, nth_zero, nth_succ, set_zero, set_succ, add_int, add_str, add_lst, lcat_lst, sub_int', neg_int', lt_int', le_int', gt_int', ge_int', mod_int', fdiv_int, mul_int', mul_str', isN_non, isN_int, notN_non, notN_int, eq_int', ne_int', eq_str', ne_str', eq_bl', ne_bl', len_str', len_lst, len_tup, len_scr, max_int, min_int, sl_str', sl_lst, sl_scr, lsl_lst, lsl_scr, ix_str', ix_lst, ix_tup', ix_scr, range1_ok, range2_ok, range3_ok, mMeth_ev, onStr_str, mComp_ev, mCh_ev, wipeE_nil, wipeE_cons, mYes_ev, int_int, int_bl, asW_lst, asW_tup, asW_scr, asW_str, lt_str', le_str', gt_str', ge_str', mRaise_ev, sum_ints, all_bls, any_bls, list_lst, list_tup, list_scr, sorted_ints', g_find_ev, g_find3_ev, g_find4_ev, g_rfind_ev, g_rfind4_ev, g_count_ev, g_count3_ev, g_count4_ev, g_startswith_ev, g_endswith_ev, Int.reduceToNat, List.getD_cons_zero, List.getD_cons_succ, List.length_map, List.length_reverse, Int.zero_mul, Int.mul_zero, Int.add_zero, Int.mul_one, nc0, nc1, nc2, nc3, nc4, nc5, nc6, nc7, nc8, nc9, nc10, nc11, nc12, nc13, List.cons_append, List.nil_append, decide_true, decide_false, not_false_eq_true, not_true_eq_false, mCallR_ev, retLE_rtL, retDE_rt, flatR_bl, flatR_int, flatR_str, flatR_non, flatR_exc, getOwn_own, mMut0_ev, mSetIx_ev, putIx_ok, rev_lst, lrep_ev, if_small, if_small', rngL_len, endS_nx, endS_rt, in_sign, notIn_sign, isN_str, notN_str, isN_tup, notN_tup, isi_int_int, isi_int_bool, isi_bl_bool, isi_bl_int, isi_str_str, isi_tup_tup, isi_lst_lst, isi_non_int, isi_non_tup, _root_.FL.R.ok_bind, _root_.FL.R.exc_bind, _root_.FL.R.stuck_bind, _root_.FL.R.pure_eq, List.append_nil, List.length_cons, List.length_nil, Nat.zero_add, Nat.reduceAdd, Nat.reduceLeDiff, Nat.reduceLT, and_self, and_true, true_and, nextK_nx, nextK_ct, nextK_bk, nextK_rt, nextK_rtL, nextK_ex, nextK_ite, decide_eq_true_eq, if_true, if_false, ite_true, ite_false, Bool.true_eq_false, Bool.false_eq_true, Bool.not_true, Bool.not_false, reduceIte, Bool.not_eq_true', decide_eq_false_iff_not, e]
  cases r with
  | none => rfl
  | some j => rfl
/-- the partner of the sign at k -/
def ptn (t : List Nat) (k : Nat) : Option Nat :=
  if t.getD k 0 = 40 then scn t 40 41 (t.length - k) k 0 else if t.getD k 0 = 91 then scn t 91 93 (t.length - k) k 0 else if t.getD k 0 = 123 then scn t 123 125 (t.length - k) k 0
  else if t.getD k 0 = 41 then scd t 41 40 (k + 1) 0 else if t.getD k 0 = 93 then scd t 93 91 (k + 1) 0 else if t.getD k 0 = 125 then scd t 125 123 (k + 1) 0 else none
theorem in_sg (c : Nat) (s : List Nat) : D.in_ (.str [c]) (.str s) = .ok (.bl (decide (c ∈ s))) := by simp -implicitDefEqProofs (disch := first | omega | (simp only [List.length_map, List.length_append, List.length_cons, List.length_nil, List.length_take, List.length_drop, repS_len, rngL_len, List.length_range, List.length_reverse]; done) | (simp only [List.length_map, List.length_append, List.length_cons, List.length_nil, List.length_take, List.length_drop, repS_len, rngL_len, List.length_range, List.length_reverse]; omega)) only [mVar_ev, mVarR_ev, getV_val, getR_val, getR_own, mC_ev, mOp_ev, mOpL_ev, mT_ev, asB_bl, mAnd_ev, mOr_ev, mNot_ev, mAndV_ev, mOrV_ev, mNotV_ev, mIf_ev, mNil_ev, mCons_ev, mTup_ev, mLst_ev, mCall_ev, mPn_ev, mPs_ev, asI_int, mSl_ev, mSlL_ev, asL_lst, asL_scr, asTp_tup, asSt_str, R_ite, mWalk_ev, mLe_ev, mNeg_ev, mSeq_ev, mSkip_ev, bind_nx, bind_rt, bind_rtL, bind_bk, bind_ct, bind_ex, bind_ite, lift_ok, lift_exc, lift_ite, mAsg_ev, mAsgL_ev, mDrop_ev, mRet_ev, mRetL_ev, mRetN_ev, mRetOwn_ev, getO_own, mIfS_ev, mSet1_ev, onO_own, onO_val, mAppend_ev, putO_own, mAsgG_ev, optSO_some, gSet_ev, gsNil_ev, gsCons_ev, obind_some, gTupM_1, gTupM_2, gTupM_3, gTupM_4, gTupM_5, gTupM_6, mFor_ev, retD_nx, retD_rt, retD_rtL, retD_ex, retD_ite, retLs_rtL, retLs_ex, retLs_ite, nth_zero, nth_succ, set_zero, set_succ, add_int, add_str, add_lst, lcat_lst, sub_int', neg_int', lt_int', le_int', gt_int', ge_int', mod_int', fdiv_int, mul_int', mul_str', isN_non, isN_int, notN_non, notN_int, eq_int', ne_int', eq_str', ne_str', eq_bl', ne_bl', len_str', len_lst, len_tup, len_scr, max_int, min_int, sl_str', sl_lst, sl_scr, lsl_lst, lsl_scr, ix_str', ix_lst, ix_tup', ix_scr, range1_ok, range2_ok, range3_ok, mMeth_ev, onStr_str, mComp_ev, mCh_ev, wipeE_nil, wipeE_cons, mYes_ev, int_int, int_bl, asW_lst, asW_tup, asW_scr, asW_str, lt_str', le_str', gt_str', ge_str', mRaise_ev, sum_ints, all_bls, any_bls, list_lst, list_tup, list_scr, sorted_ints', g_find_ev, g_find3_ev, g_find4_ev, g_rfind_ev, g_rfind4_ev, g_count_ev, g_count3_ev, g_count4_ev, g_startswith_ev, g_endswith_ev, Int.reduceToNat, List.getD_cons_zero, List.getD_cons_succ, List.length_map, List.length_reverse, Int.zero_mul, Int.mul_zero, Int.add_zero, Int.mul_one, nc0, nc1, nc2, nc3, nc4, nc5, nc6, nc7, nc8, nc9, nc10, nc11, nc12, nc13, List.cons_append, List.nil_append, decide_true, decide_false, not_false_eq_true, not_true_eq_false, mCallR_ev, retLE_rtL, retDE_rt, flatR_bl, flatR_int, flatR_str, flatR_non, flatR_exc, getOwn_own, mMut0_ev, mSetIx_ev, putIx_ok, rev_lst, lrep_ev, if_small, if_small', rngL_len, endS_nx, endS_rt, in_sign, notIn_sign, isN_str, notN_str, isN_tup, notN_tup, isi_int_int, isi_int_bool, isi_bl_bool, isi_bl_int, isi_str_str, isi_tup_tup, isi_lst_lst, isi_non_int, isi_non_tup, _root_.FL.R.ok_bind, _root_.FL.R.exc_bind, _root_.FL.R.stuck_bind, _root_.FL.R.pure_eq, List.append_nil, List.length_cons, List.length_nil, Nat.zero_add, Nat.reduceAdd, Nat.reduceLeDiff, Nat.reduceLT, and_self, and_true, true_and, nextK_nx, nextK_ct, nextK_bk, nextK_rt, nextK_rtL, nextK_ex, nextK_ite, decide_eq_true_eq, if_true, if_false, ite_true, ite_false, Bool.true_eq_false, Bool.false_eq_true, Bool.not_true, Bool.not_false, reduceIte, Bool.not_eq_true', decide_eq_false_iff_not]
theorem e_partnerO (t : List Nat) (o c i k : Nat) (lt : t.length ≤ 600) (hk : k < t.length) (ho : t.getD k 0 = o) (hoc : (i, o, c) = (0, 40, 41) ∨ (i, o, c) = (1, 91, 93) ∨ (i, o, c) = (2, 123, 125)) :
    p_partner [.str t, .int (k : Int)] = .ok (oD (scn t o c (t.length - k) k 0)) := by
  rw [u_partner]; unfold b_partner
  obtain ⟨Γ', e⟩ := e_met t o c (.lst (rngL (k : Int) 1 (t.length - k))) lt (t.length - k) k 0 .no (by omega)
  have hk' : ¬ (t.length : Int) ≤ k := by omega
  have em := e_met2 t o c (rngL (k : Int) 1 (t.length - k)) Γ' _ e
  have rr : ((t.length : Int) - k).toNat = t.length - k := by omega
  have rc : (0 : Int) ≤ k ∧ (k : Int) ≤ 16777216 ∧ (-16777216 : Int) ≤ t.length ∧ (t.length : Int) ≤ 16777216 := ⟨by omega, by omega, by omega, by omega⟩
  have i3 : o ∈ [40, 91, 123] ∧ g_sindex [40, 91, 123] [.str [o]] = .ok (.int ((i : Nat) : Int)) ∧ D.ix (.str [41, 93, 125]) (.int ((i : Nat) : Int)) = .ok (.str [c]) := by
    rcases hoc with h | h | h <;> (obtain ⟨rfl, h2⟩ := Prod.mk.inj h; obtain ⟨rfl, rfl⟩ := Prod.mk.inj h2; exact ⟨by decide, g_sindex_of (by decide +kernel), rfl⟩)
  obtain ⟨i1, i2, i3⟩ := i3
  have i1' : D.in_ (.str [o]) (.str [40, 91, 123]) = .ok (.bl true) := by rw [in_sg, decide_eq_true i1]
  simp -implicitDefEqProofs (disch := first | omega | (simp only [List.length_map, List.length_append, List.length_cons, List.length_nil, List.length_take, List.length_drop, repS_len, rngL_len, List.length_range, List.length_reverse]; done) | (simp only [List.length_map, List.length_append, List.length_cons, List.length_nil, List.length_take, List.length_drop, repS_len, rngL_len, List.length_range, List.length_reverse]; omega)) only [mVar_ev, mVarR_ev, getV_val, getR_val, getR_own, mC_ev, mOp_ev, mOpL_ev, mT_ev, asB_bl, mAnd_ev, mOr_ev, mNot_ev, mAndV_ev, mOrV_ev, mNotV_ev, mIf_ev, mNil_ev, mCons_ev, mTup_ev, mLst_ev, mCall_ev, mPn_ev, mPs_ev, asI_int, mSl_ev, mSlL_ev, asL_lst, asL_scr, asTp_tup, asSt_str, R_ite, mWalk_ev, mLe_ev, mNeg_ev, mSeq_ev, mSkip_ev, bind_rt, bind_rtL, bind_bk, bind_ct, bind_ex, bind_ite, lift_ok, lift_exc, lift_ite, mAsg_ev, mAsgL_ev, mDrop_ev, mRet_ev, mRetL_ev, mRetN_ev, mRetOwn_ev, getO_own, mIfS_ev, mSet1_ev, onO_own, onO_val, mAppend_ev, putO_own, mAsgG_ev, optSO_some, gSet_ev, gsNil_ev, gsCons_ev, obind_some, gTupM_1, gTupM_2, gTupM_3, gTupM_4, gTupM_5, gTupM_6, mFor_ev, retD_nx, retD_rt, retD_rtL, retD_ex, retD_ite, retLs_rtL, retLs_ex, retLs_ite, nth_zero, nth_succ, set_zero, set_succ, add_int, add_str, add_lst, lcat_lst, sub_int', neg_int', lt_int', le_int', gt_int', ge_int', mod_int', fdiv_int, mul_int', mul_str', isN_non, isN_int, notN_non, notN_int, eq_int', ne_int', eq_str', ne_str', eq_bl', ne_bl', len_str', len_lst, len_tup, len_scr, max_int, min_int, sl_str', sl_lst, sl_scr, lsl_lst, lsl_scr, ix_str', ix_lst, ix_tup', ix_scr, range1_ok, range2_ok, range3_ok, mMeth_ev, onStr_str, mComp_ev, mCh_ev, wipeE_nil, wipeE_cons, mYes_ev, int_int, int_bl, asW_lst, asW_tup, asW_scr, asW_str, lt_str', le_str', gt_str', ge_str', mRaise_ev, sum_ints, all_bls, any_bls, list_lst, list_tup, list_scr, sorted_ints', g_find_ev, g_find3_ev, g_find4_ev, g_rfind_ev, g_rfind4_ev, g_count_ev, g_count3_ev, g_count4_ev, g_startswith_ev, g_endswith_ev, Int.reduceToNat, List.getD_cons_zero, List.getD_cons_succ, List.length_map, List.length_reverse, Int.zero_mul, Int.mul_zero, Int.add_zero, Int.mul_one, nc0, nc1, nc2, nc3, nc4, nc5, nc6, nc7, nc8, nc9, nc10, nc11, nc12, nc13, List.cons_append, List.nil_append, decide_true, decide_false, not_false_eq_true, not_true_eq_false, mCallR_ev, retLE_rtL, retDE_rt, flatR_bl, flatR_int, flatR_str, flatR_non, flatR_exc, getOwn_own, mMut0_ev, mSetIx_ev, putIx_ok, rev_lst, lrep_ev, if_small, if_small', rngL_len, endS_nx, endS_rt, in_sign, notIn_sign, isN_str, notN_str, isN_tup, notN_tup, isi_int_int, isi_int_bool, isi_bl_bool, isi_bl_int, isi_str_str, isi_tup_tup, isi_lst_lst, isi_non_int, isi_non_tup, _root_.FL.R.ok_bind, _root_.FL.R.exc_bind, _root_.FL.R.stuck_bind, _root_.FL.R.pure_eq, List.append_nil, List.length_cons, List.length_nil, Nat.zero_add, Nat.reduceAdd, Nat.reduceLeDiff, Nat.reduceLT, and_self, and_true, true_and, nextK_nx, nextK_ct, nextK_bk, nextK_rt, nextK_rtL, nextK_ex, nextK_ite, decide_eq_true_eq, if_true, if_false, ite_true, ite_false, Bool.true_eq_false, Bool.false_eq_true, Bool.not_true, Bool.not_false, reduceIte, Bool.not_eq_true', decide_eq_false_iff_not, hk', Int.toNat_natCast, ho]
  rw [bind_nx]
  simp -implicitDefEqProofs (disch := first | omega | (simp only [List.length_map, List.length_append, List.length_cons, List.length_nil, List.length_take, List.length_drop, repS_len, rngL_len, List.length_range, List.length_reverse]; done) | (simp only [List.length_map, List.length_append, List.length_cons, List.length_nil, List.length_take, List.length_drop, repS_len, rngL_len, List.length_range, List.length_reverse]; omega)) only [mVar_ev, mVarR_ev, getV_val, getR_val, getR_own, mC_ev, mOp_ev, mOpL_ev, mT_ev, asB_bl, mAnd_ev, mOr_ev, mNot_ev, mAndV_ev, mOrV_ev, mNotV_ev, mIf_ev, mNil_ev, mCons_ev, mTup_ev, mLst_ev, mCall_ev, mPn_ev, mPs_ev, asI_int, mSl_ev, mSlL_ev, asL_lst, asL_scr, asTp_tup, asSt_str, R_ite, mWalk_ev, mLe_ev, mNeg_ev, mSeq_ev, mSkip_ev, bind_rt, bind_rtL, bind_bk, bind_ct, bind_ex, bind_ite, lift_ok, lift_exc, lift_ite, mAsg_ev, mAsgL_ev, mDrop_ev, mRet_ev, mRetL_ev, mRetN_ev, mRetOwn_ev, getO_own, mIfS_ev, mSet1_ev, onO_own, onO_val, mAppend_ev, putO_own, mAsgG_ev, optSO_some, gSet_ev, gsNil_ev, gsCons_ev, obind_some, gTupM_1, gTupM_2, gTupM_3, gTupM_4, gTupM_5, gTupM_6, mFor_ev, retD_nx, retD_rt, retD_rtL, retD_ex, retD_ite, retLs_rtL, retLs_ex, retLs_ite, nth_zero, nth_succ, set_zero, set_succ, add_int, add_str, add_lst, lcat_lst, sub_int', neg_int', lt_int', le_int', gt_int', ge_int', mod_int', fdiv_int, mul_int', mul_str', isN_non, isN_int, notN_non, notN_int, eq_int', ne_int', eq_str', ne_str', eq_bl', ne_bl', len_str', len_lst, len_tup, len_scr, max_int, min_int, sl_str', sl_lst, sl_scr, lsl_lst, lsl_scr, ix_str', ix_lst, ix_tup', ix_scr, range1_ok, range2_ok, range3_ok, mMeth_ev, onStr_str, mComp_ev, mCh_ev, wipeE_nil, wipeE_cons, mYes_ev, int_int, int_bl, asW_lst, asW_tup, asW_scr, asW_str, lt_str', le_str', gt_str', ge_str', mRaise_ev, sum_ints, all_bls, any_bls, list_lst, list_tup, list_scr, sorted_ints', g_find_ev, g_find3_ev, g_find4_ev, g_rfind_ev, g_rfind4_ev, g_count_ev, g_count3_ev, g_count4_ev, g_startswith_ev, g_endswith_ev, Int.reduceToNat, List.getD_cons_zero, List.getD_cons_succ, List.length_map, List.length_reverse, Int.zero_mul, Int.mul_zero, Int.add_zero, Int.mul_one, nc0, nc1, nc2, nc3, nc4, nc5, nc6, nc7, nc8, nc9, nc10, nc11, nc12, nc13, List.cons_append, List.nil_append, decide_true, decide_false, not_false_eq_true, not_true_eq_false, mCallR_ev, retLE_rtL, retDE_rt, flatR_bl, flatR_int, flatR_str, flatR_non, flatR_exc, getOwn_own, mMut0_ev, mSetIx_ev, putIx_ok, rev_lst, lrep_ev, if_small, if_small', rngL_len, endS_nx, endS_rt, in_sign, notIn_sign, isN_str, notN_str, isN_tup, notN_tup, isi_int_int, isi_int_bool, isi_bl_bool, isi_bl_int, isi_str_str, isi_tup_tup, isi_lst_lst, isi_non_int, isi_non_tup, _root_.FL.R.ok_bind, _root_.FL.R.exc_bind, _root_.FL.R.stuck_bind, _root_.FL.R.pure_eq, List.append_nil, List.length_cons, List.length_nil, Nat.zero_add, Nat.reduceAdd, Nat.reduceLeDiff, Nat.reduceLT, and_self, and_true, true_and, nextK_nx, nextK_ct, nextK_bk, nextK_rt, nextK_rtL, nextK_ex, nextK_ite, decide_eq_true_eq, if_true, if_false, ite_true, ite_false, Bool.true_eq_false, Bool.false_eq_true, Bool.not_true, Bool.not_false, reduceIte, Bool.not_eq_true', decide_eq_false_iff_not, hk', Int.toNat_natCast, ho]
  rw [bind_nx]
  simp -implicitDefEqProofs (disch := first | omega | (simp only [List.length_map, List.length_append, List.length_cons, List.length_nil, List.length_take, List.length_drop, repS_len, rngL_len, List.length_range, List.length_reverse]; done) | (simp only [List.length_map, List.length_append, List.length_cons, List.length_nil, List.length_take, List.length_drop, repS_len, rngL_len, List.length_range, List.length_reverse]; omega)) only [mVar_ev, mVarR_ev, getV_val, getR_val, getR_own, mC_ev, mOp_ev, mOpL_ev, mT_ev, asB_bl, mAnd_ev, mOr_ev, mNot_ev, mAndV_ev, mOrV_ev, mNotV_ev, mIf_ev, mNil_ev, mCons_ev, mTup_ev, mLst_ev, mCall_ev, mPn_ev, mPs_ev, asI_int, mSl_ev, mSlL_ev, asL_lst, asL_scr, asTp_tup, asSt_str, R_ite, mWalk_ev, mLe_ev, mNeg_ev, mSeq_ev, mSkip_ev, bind_nx, bind_rt, bind_rtL, bind_bk, bind_ct, bind_ex, bind_ite, lift_ok, lift_exc, lift_ite, mAsg_ev, mAsgL_ev, mDrop_ev, mRet_ev, mRetL_ev, mRetN_ev, mRetOwn_ev, getO_own, mIfS_ev, mSet1_ev, onO_own, onO_val, mAppend_ev, putO_own, mAsgG_ev, optSO_some, gSet_ev, gsNil_ev, gsCons_ev, obind_some, gTupM_1, gTupM_2, gTupM_3, gTupM_4, gTupM_5, gTupM_6, mFor_ev, retD_nx, retD_rt, retD_rtL, retD_ex, retD_ite, retLs_rtL, retLs_ex, retLs_ite, nth_zero, nth_succ, set_zero, set_succ, add_int, add_str, add_lst, lcat_lst, sub_int', neg_int', lt_int', le_int', gt_int', ge_int', mod_int', fdiv_int, mul_int', mul_str', isN_non, isN_int, notN_non, notN_int, eq_int', ne_int', eq_str', ne_str', eq_bl', ne_bl', len_str', len_lst, len_tup, len_scr, max_int, min_int, sl_str', sl_lst, sl_scr, lsl_lst, lsl_scr, ix_str', ix_lst, ix_tup', ix_scr, range1_ok, range2_ok, range3_ok, mMeth_ev, onStr_str, mComp_ev, mCh_ev, wipeE_nil, wipeE_cons, mYes_ev, int_int, int_bl, asW_lst, asW_tup, asW_scr, asW_str, lt_str', le_str', gt_str', ge_str', mRaise_ev, sum_ints, all_bls, any_bls, list_lst, list_tup, list_scr, sorted_ints', g_find_ev, g_find3_ev, g_find4_ev, g_rfind_ev, g_rfind4_ev, g_count_ev, g_count3_ev, g_count4_ev, g_startswith_ev, g_endswith_ev, Int.reduceToNat, List.getD_cons_zero, List.getD_cons_succ, List.length_map, List.length_reverse, Int.zero_mul, Int.mul_zero, Int.add_zero, Int.mul_one, nc0, nc1, nc2, nc3, nc4, nc5, nc6, nc7, nc8, nc9, nc10, nc11, nc12, nc13, List.cons_append, List.nil_append, decide_true, decide_false, not_false_eq_true, not_true_eq_false, mCallR_ev, retLE_rtL, retDE_rt, flatR_bl, flatR_int, flatR_str, flatR_non, flatR_exc, getOwn_own, mMut0_ev, mSetIx_ev, putIx_ok, rev_lst, lrep_ev, if_small, if_small', rngL_len, endS_nx, endS_rt, in_sign, notIn_sign, isN_str, notN_str, isN_tup, notN_tup, isi_int_int, isi_int_bool, isi_bl_bool, isi_bl_int, isi_str_str, isi_tup_tup, isi_lst_lst, isi_non_int, isi_non_tup, _root_.FL.R.ok_bind, _root_.FL.R.exc_bind, _root_.FL.R.stuck_bind, _root_.FL.R.pure_eq, List.append_nil, List.length_cons, List.length_nil, Nat.zero_add, Nat.reduceAdd, Nat.reduceLeDiff, Nat.reduceLT, and_self, and_true, true_and, nextK_nx, nextK_ct, nextK_bk, nextK_rt, nextK_rtL, nextK_ex, nextK_ite, decide_eq_true_eq, if_true, if_false, ite_true, ite_false, Bool.true_eq_false, Bool.false_eq_true, Bool.not_true, Bool.not_false, reduceIte, Bool.not_eq_true', decide_eq_false_iff_not, i1', mLRg2_ev, rc, rr, i2, i3, em]
theorem e_partnerC (t : List Nat) (o c i k : Nat) (lt : t.length ≤ 600) (hk : k < t.length) (ho : t.getD k 0 = c) (hoc : (i, o, c) = (0, 40, 41) ∨ (i, o, c) = (1, 91, 93) ∨ (i, o, c) = (2, 123, 125)) :
    p_partner [.str t, .int (k : Int)] = .ok (oD (scd t c o (k + 1) 0)) := by
  rw [u_partner]; unfold b_partner
  obtain ⟨Γ', e⟩ := e_metd t c o (.lst (rngL (((k + 1 : Nat) : Int) - 1) (-1) (k + 1))) lt (k + 1) 0 .no (by omega)
  have hk' : ¬ (t.length : Int) ≤ k := by omega
  have em := e_met2 t c o (rngL (((k + 1 : Nat) : Int) - 1) (-1) (k + 1)) Γ' _ e
  have r1 : ((k + 1 : Nat) : Int) - 1 = k := by omega
  rw [r1] at em
  have rr : ((k : Int) - -1).toNat = k + 1 := by omega
  have rc : (0 : Int) ≤ k ∧ (k : Int) ≤ 16777215 := ⟨by omega, by omega⟩
  have i3 : ¬ c ∈ [40, 91, 123] ∧ c ∈ [41, 93, 125] ∧ g_sindex [41, 93, 125] [.str [c]] = .ok (.int ((i : Nat) : Int)) ∧ D.ix (.str [40, 91, 123]) (.int ((i : Nat) : Int)) = .ok (.str [o]) := by
    rcases hoc with h | h | h <;> (obtain ⟨rfl, h2⟩ := Prod.mk.inj h; obtain ⟨rfl, rfl⟩ := Prod.mk.inj h2; exact ⟨by decide, by decide, g_sindex_of (by decide +kernel), rfl⟩)
  obtain ⟨i0, i1, i2, i3⟩ := i3
  have i0' : D.in_ (.str [c]) (.str [40, 91, 123]) = .ok (.bl false) := by rw [in_sg, decide_eq_false i0]
  have i1' : D.in_ (.str [c]) (.str [41, 93, 125]) = .ok (.bl true) := by rw [in_sg, decide_eq_true i1]
  simp -implicitDefEqProofs (disch := first | omega | (simp only [List.length_map, List.length_append, List.length_cons, List.length_nil, List.length_take, List.length_drop, repS_len, rngL_len, List.length_range, List.length_reverse]; done) | (simp only [List.length_map, List.length_append, List.length_cons, List.length_nil, List.length_take, List.length_drop, repS_len, rngL_len, List.length_range, List.length_reverse]; omega)) only [mVar_ev, mVarR_ev, getV_val, getR_val, getR_own, mC_ev, mOp_ev, mOpL_ev, mT_ev, asB_bl, mAnd_ev, mOr_ev, mNot_ev, mAndV_ev, mOrV_ev, mNotV_ev, mIf_ev, mNil_ev, mCons_ev, mTup_ev, mLst_ev, mCall_ev, mPn_ev, mPs_ev, asI_int, mSl_ev, mSlL_ev, asL_lst, asL_scr, asTp_tup, asSt_str, R_ite, mWalk_ev, mLe_ev, mNeg_ev, mSeq_ev, mSkip_ev, bind_rt, bind_rtL, bind_bk, bind_ct, bind_ex, bind_ite, lift_ok, lift_exc, lift_ite, mAsg_ev, mAsgL_ev, mDrop_ev, mRet_ev, mRetL_ev, mRetN_ev, mRetOwn_ev, getO_own, mIfS_ev, mSet1_ev, onO_own, onO_val, mAppend_ev, putO_own, mAsgG_ev, optSO_some, gSet_ev, gsNil_ev, gsCons_ev, obind_some, gTupM_1, gTupM_2, gTupM_3, gTupM_4, gTupM_5, gTupM_6, mFor_ev, retD_nx, retD_rt, retD_rtL, retD_ex, retD_ite, retLs_rtL, retLs_ex, retLs_ite, nth_zero, nth_succ, set_zero, set_succ, add_int, add_str, add_lst, lcat_lst, sub_int', neg_int', lt_int', le_int', gt_int', ge_int', mod_int', fdiv_int, mul_int', mul_str', isN_non, isN_int, notN_non, notN_int, eq_int', ne_int', eq_str', ne_str', eq_bl', ne_bl', len_str', len_lst, len_tup, len_scr, max_int, min_int, sl_str', sl_lst, sl_scr, lsl_lst, lsl_scr, ix_str', ix_lst, ix_tup', ix_scr, range1_ok, range2_ok, range3_ok, mMeth_ev, onStr_str, mComp_ev, mCh_ev, wipeE_nil, wipeE_cons, mYes_ev, int_int, int_bl, asW_lst, asW_tup, asW_scr, asW_str, lt_str', le_str', gt_str', ge_str', mRaise_ev, sum_ints, all_bls, any_bls, list_lst, list_tup, list_scr, sorted_ints', g_find_ev, g_find3_ev, g_find4_ev, g_rfind_ev, g_rfind4_ev, g_count_ev, g_count3_ev, g_count4_ev, g_startswith_ev, g_endswith_ev, Int.reduceToNat, List.getD_cons_zero, List.getD_cons_succ, List.length_map, List.length_reverse, Int.zero_mul, Int.mul_zero, Int.add_zero, Int.mul_one, nc0, nc1, nc2, nc3, nc4, nc5, nc6, nc7, nc8, nc9, nc10, nc11, nc12, nc13, List.cons_append, List.nil_append, decide_true, decide_false, not_false_eq_true, not_true_eq_false, mCallR_ev, retLE_rtL, retDE_rt, flatR_bl, flatR_int, flatR_str, flatR_non, flatR_exc, getOwn_own, mMut0_ev, mSetIx_ev, putIx_ok, rev_lst, lrep_ev, if_small, if_small', rngL_len, endS_nx, endS_rt, in_sign, notIn_sign, isN_str, notN_str, isN_tup, notN_tup, isi_int_int, isi_int_bool, isi_bl_bool, isi_bl_int, isi_str_str, isi_tup_tup, isi_lst_lst, isi_non_int, isi_non_tup, _root_.FL.R.ok_bind, _root_.FL.R.exc_bind, _root_.FL.R.stuck_bind, _root_.FL.R.pure_eq, List.append_nil, List.length_cons, List.length_nil, Nat.zero_add, Nat.reduceAdd, Nat.reduceLeDiff, Nat.reduceLT, and_self, and_true, true_and, nextK_nx, nextK_ct, nextK_bk, nextK_rt, nextK_rtL, nextK_ex, nextK_ite, decide_eq_true_eq, if_true, if_false, ite_true, ite_false, Bool.true_eq_false, Bool.false_eq_true, Bool.not_true, Bool.not_false, reduceIte, Bool.not_eq_true', decide_eq_false_iff_not, hk', Int.toNat_natCast, ho]
  rw [bind_nx]
  simp -implicitDefEqProofs (disch := first | omega | (simp only [List.length_map, List.length_append, List.length_cons, List.length_nil, List.length_take, List.length_drop, repS_len, rngL_len, List.length_range, List.length_reverse]; done) | (simp only [List.length_map, List.length_append, List.length_cons, List.length_nil, List.length_take, List.length_drop, repS_len, rngL_len, List.length_range, List.length_reverse]; omega)) only [mVar_ev, mVarR_ev, getV_val, getR_val, getR_own, mC_ev, mOp_ev, mOpL_ev, mT_ev, asB_bl, mAnd_ev, mOr_ev, mNot_ev, mAndV_ev, mOrV_ev, mNotV_ev, mIf_ev, mNil_ev, mCons_ev, mTup_ev, mLst_ev, mCall_ev, mPn_ev, mPs_ev, asI_int, mSl_ev, mSlL_ev, asL_lst, asL_scr, asTp_tup, asSt_str, R_ite, mWalk_ev, mLe_ev, mNeg_ev, mSeq_ev, mSkip_ev, bind_rt, bind_rtL, bind_bk, bind_ct, bind_ex, bind_ite, lift_ok, lift_exc, lift_ite, mAsg_ev, mAsgL_ev, mDrop_ev, mRet_ev, mRetL_ev, mRetN_ev, mRetOwn_ev, getO_own, mIfS_ev, mSet1_ev, onO_own, onO_val, mAppend_ev, putO_own, mAsgG_ev, optSO_some, gSet_ev, gsNil_ev, gsCons_ev, obind_some, gTupM_1, gTupM_2, gTupM_3, gTupM_4, gTupM_5, gTupM_6, mFor_ev, retD_nx, retD_rt, retD_rtL, retD_ex, retD_ite, retLs_rtL, retLs_ex, retLs_ite, nth_zero, nth_succ, set_zero, set_succ, add_int, add_str, add_lst, lcat_lst, sub_int', neg_int', lt_int', le_int', gt_int', ge_int', mod_int', fdiv_int, mul_int', mul_str', isN_non, isN_int, notN_non, notN_int, eq_int', ne_int', eq_str', ne_str', eq_bl', ne_bl', len_str', len_lst, len_tup, len_scr, max_int, min_int, sl_str', sl_lst, sl_scr, lsl_lst, lsl_scr, ix_str', ix_lst, ix_tup', ix_scr, range1_ok, range2_ok, range3_ok, mMeth_ev, onStr_str, mComp_ev, mCh_ev, wipeE_nil, wipeE_cons, mYes_ev, int_int, int_bl, asW_lst, asW_tup, asW_scr, asW_str, lt_str', le_str', gt_str', ge_str', mRaise_ev, sum_ints, all_bls, any_bls, list_lst, list_tup, list_scr, sorted_ints', g_find_ev, g_find3_ev, g_find4_ev, g_rfind_ev, g_rfind4_ev, g_count_ev, g_count3_ev, g_count4_ev, g_startswith_ev, g_endswith_ev, Int.reduceToNat, List.getD_cons_zero, List.getD_cons_succ, List.length_map, List.length_reverse, Int.zero_mul, Int.mul_zero, Int.add_zero, Int.mul_one, nc0, nc1, nc2, nc3, nc4, nc5, nc6, nc7, nc8, nc9, nc10, nc11, nc12, nc13, List.cons_append, List.nil_append, decide_true, decide_false, not_false_eq_true, not_true_eq_false, mCallR_ev, retLE_rtL, retDE_rt, flatR_bl, flatR_int, flatR_str, flatR_non, flatR_exc, getOwn_own, mMut0_ev, mSetIx_ev, putIx_ok, rev_lst, lrep_ev, if_small, if_small', rngL_len, endS_nx, endS_rt, in_sign, notIn_sign, isN_str, notN_str, isN_tup, notN_tup, isi_int_int, isi_int_bool, isi_bl_bool, isi_bl_int, isi_str_str, isi_tup_tup, isi_lst_lst, isi_non_int, isi_non_tup, _root_.FL.R.ok_bind, _root_.FL.R.exc_bind, _root_.FL.R.stuck_bind, _root_.FL.R.pure_eq, List.append_nil, List.length_cons, List.length_nil, Nat.zero_add, Nat.reduceAdd, Nat.reduceLeDiff, Nat.reduceLT, and_self, and_true, true_and, nextK_nx, nextK_ct, nextK_bk, nextK_rt, nextK_rtL, nextK_ex, nextK_ite, decide_eq_true_eq, if_true, if_false, ite_true, ite_false, Bool.true_eq_false, Bool.false_eq_true, Bool.not_true, Bool.not_false, reduceIte, Bool.not_eq_true', decide_eq_false_iff_not, hk', Int.toNat_natCast, ho]
  rw [bind_nx]
  have el : mLRg3 (mVar 1) (mNeg (mC (.int 1))) (mNeg (mC (.int 1))) [.val (.str t), .val (.int (k : Int)), .val (.str [c]), .no] = .ok (rngL (k : Int) (-1) (k + 1)) := by
    show (if (0 : Int) ≤ k ∧ (k : Int) ≤ 16777215 ∧ (-1 : Int) ≤ -1 ∧ (-1 : Int) ≤ 16777216 ∧ (-1 : Int) = -1 then R.ok (rngL (k : Int) (-1) ((k : Int) - -1).toNat) else .stuck) = _
    rw [if_pos ⟨rc.1, rc.2, by decide, by decide, rfl⟩, rr]
  simp -implicitDefEqProofs (disch := first | omega | (simp only [List.length_map, List.length_append, List.length_cons, List.length_nil, List.length_take, List.length_drop, repS_len, rngL_len, List.length_range, List.length_reverse]; done) | (simp only [List.length_map, List.length_append, List.length_cons, List.length_nil, List.length_take, List.length_drop, repS_len, rngL_len, List.length_range, List.length_reverse]; omega)) only [mVar_ev, mVarR_ev, getV_val, getR_val, getR_own, mC_ev, mOp_ev, mOpL_ev, mT_ev, asB_bl, mAnd_ev, mOr_ev, mNot_ev, mAndV_ev, mOrV_ev, mNotV_ev, mIf_ev, mNil_ev, mCons_ev, mTup_ev, mLst_ev, mCall_ev, mPn_ev, mPs_ev, asI_int, mSl_ev, mSlL_ev, asL_lst, asL_scr, asTp_tup, asSt_str, R_ite, mWalk_ev, mLe_ev, mNeg_ev, mSeq_ev, mSkip_ev, bind_nx, bind_rt, bind_rtL, bind_bk, bind_ct, bind_ex, bind_ite, lift_ok, lift_exc, lift_ite, mAsg_ev, mAsgL_ev, mDrop_ev, mRet_ev, mRetL_ev, mRetN_ev, mRetOwn_ev, getO_own, mIfS_ev, mSet1_ev, onO_own, onO_val, mAppend_ev, putO_own, mAsgG_ev, optSO_some, gSet_ev, gsNil_ev, gsCons_ev, obind_some, gTupM_1, gTupM_2, gTupM_3, gTupM_4, gTupM_5, gTupM_6, mFor_ev, retD_nx, retD_rt, retD_rtL, retD_ex, retD_ite, retLs_rtL, retLs_ex, retLs_ite, nth_zero, nth_succ, set_zero, set_succ, add_int, add_str, add_lst, lcat_lst, sub_int', neg_int', lt_int', le_int', gt_int', ge_int', mod_int', fdiv_int, mul_int', mul_str', isN_non, isN_int, notN_non, notN_int, eq_int', ne_int', eq_str', ne_str', eq_bl', ne_bl', len_str', len_lst, len_tup, len_scr, max_int, min_int, sl_str', sl_lst, sl_scr, lsl_lst, lsl_scr, ix_str', ix_lst, ix_tup', ix_scr, range1_ok, range2_ok, range3_ok, mMeth_ev, onStr_str, mComp_ev, mCh_ev, wipeE_nil, wipeE_cons, mYes_ev, int_int, int_bl, asW_lst, asW_tup, asW_scr, asW_str, lt_str', le_str', gt_str', ge_str', mRaise_ev, sum_ints, all_bls, any_bls, list_lst, list_tup, list_scr, sorted_ints', g_find_ev, g_find3_ev, g_find4_ev, g_rfind_ev, g_rfind4_ev, g_count_ev, g_count3_ev, g_count4_ev, g_startswith_ev, g_endswith_ev, Int.reduceToNat, List.getD_cons_zero, List.getD_cons_succ, List.length_map, List.length_reverse, Int.zero_mul, Int.mul_zero, Int.add_zero, Int.mul_one, nc0, nc1, nc2, nc3, nc4, nc5, nc6, nc7, nc8, nc9, nc10, nc11, nc12, nc13, List.cons_append, List.nil_append, decide_true, decide_false, not_false_eq_true, not_true_eq_false, mCallR_ev, retLE_rtL, retDE_rt, flatR_bl, flatR_int, flatR_str, flatR_non, flatR_exc, getOwn_own, mMut0_ev, mSetIx_ev, putIx_ok, rev_lst, lrep_ev, if_small, if_small', rngL_len, endS_nx, endS_rt, in_sign, notIn_sign, isN_str, notN_str, isN_tup, notN_tup, isi_int_int, isi_int_bool, isi_bl_bool, isi_bl_int, isi_str_str, isi_tup_tup, isi_lst_lst, isi_non_int, isi_non_tup, _root_.FL.R.ok_bind, _root_.FL.R.exc_bind, _root_.FL.R.stuck_bind, _root_.FL.R.pure_eq, List.append_nil, List.length_cons, List.length_nil, Nat.zero_add, Nat.reduceAdd, Nat.reduceLeDiff, Nat.reduceLT, and_self, and_true, true_and, nextK_nx, nextK_ct, nextK_bk, nextK_rt, nextK_rtL, nextK_ex, nextK_ite, decide_eq_true_eq, if_true, if_false, ite_true, ite_false, Bool.true_eq_false, Bool.false_eq_true, Bool.not_true, Bool.not_false, reduceIte, Bool.not_eq_true', decide_eq_false_iff_not, i0', i1', el, i2, i3, em]
theorem e_partner (t : List Nat) (k : Nat) (lt : t.length ≤ 600) (hk : k < t.length) : p_partner [.str t, .int (k : Int)] = .ok (oD (ptn t k)) := by
  unfold ptn
  split
  · exact e_partnerO t 40 41 0 k lt hk (by assumption) (.inl rfl)
  split
  · exact e_partnerO t 91 93 1 k lt hk (by assumption) (.inr (.inl rfl))
  split
  · exact e_partnerO t 123 125 2 k lt hk (by assumption) (.inr (.inr rfl))
  split
  · exact e_partnerC t 40 41 0 k lt hk (by assumption) (.inl rfl)
  split
  · exact e_partnerC t 91 93 1 k lt hk (by assumption) (.inr (.inl rfl))
  split
  · exact e_partnerC t 123 125 2 k lt hk (by assumption) (.inr (.inr rfl))
  · rename_i h1 h2 h3 h4 h5 h6
    rw [u_partner]; unfold b_partner
    have hk' : ¬ (t.length : Int) ≤ k := by omega
    have i0 : D.in_ (.str [t.getD k 0]) (.str [40, 91, 123]) = .ok (.bl false) := by rw [in_sg, decide_eq_false (by simp only [List.mem_cons, List.not_mem_nil, or_false]; omega)]
    have i1 : D.in_ (.str [t.getD k 0]) (.str [41, 93, 125]) = .ok (.bl false) := by rw [in_sg, decide_eq_false (by simp only [List.mem_cons, List.not_mem_nil, or_false]; omega)]
    simp -implicitDefEqProofs (disch := first | omega | (simp only [List.length_map, List.length_append, List.length_cons, List.length_nil, List.length_take, List.length_drop, repS_len, rngL_len, List.length_range, List.length_reverse]; done) | (simp only [List.length_map, List.length_append, List.length_cons, List.length_nil, List.length_take, List.length_drop, repS_len, rngL_len, List.length_range, List.length_reverse]; omega)) only [mVar_ev, mVarR_ev, getV_val, getR_val, getR_own, mC_ev, mOp_ev, mOpL_ev, mT_ev, asB_bl, mAnd_ev, mOr_ev, mNot_ev, mAndV_ev, mOrV_ev, mNotV_ev, mIf_ev, mNil_ev, mCons_ev, mTup_ev, mLst_ev, mCall_ev, mPn_ev, mPs_ev, asI_int, mSl_ev, mSlL_ev, asL_lst, asL_scr, asTp_tup, asSt_str, R_ite, mWalk_ev, mLe_ev, mNeg_ev, mSeq_ev, mSkip_ev, bind_nx, bind_rt, bind_rtL, bind_bk, bind_ct, bind_ex, bind_ite, lift_ok, lift_exc, lift_ite, mAsg_ev, mAsgL_ev, mDrop_ev, mRet_ev, mRetL_ev, mRetN_ev, mRetOwn_ev, getO_own, mIfS_ev, mSet1_ev, onO_own, onO_val, mAppend_ev, putO_own, mAsgG_ev, optSO_some, gSet_ev, gsNil_ev, gsCons_ev, obind_some, gTupM_1, gTupM_2, gTupM_3, gTupM_4, gTupM_5, gTupM_6, mFor_ev, retD_nx, retD_rt, retD_rtL, retD_ex, retD_ite, retLs_rtL, retLs_ex, retLs_ite, nth_zero, nth_succ, set_zero, set_succ, add_int, add_str, add_lst, lcat_lst, sub_int', neg_int', lt_int', le_int', gt_int', ge_int', mod_int', fdiv_int, mul_int', mul_str', isN_non, isN_int, notN_non, notN_int, eq_int', ne_int', eq_str', ne_str', eq_bl', ne_bl', len_str', len_lst, len_tup, len_scr, max_int, min_int, sl_str', sl_lst, sl_scr, lsl_lst, lsl_scr, ix_str', ix_lst, ix_tup', ix_scr, range1_ok, range2_ok, range3_ok, mMeth_ev, onStr_str, mComp_ev, mCh_ev, wipeE_nil, wipeE_cons, mYes_ev, int_int, int_bl, asW_lst, asW_tup, asW_scr, asW_str, lt_str', le_str', gt_str', ge_str', mRaise_ev, sum_ints, all_bls, any_bls, list_lst, list_tup, list_scr, sorted_ints', g_find_ev, g_find3_ev, g_find4_ev, g_rfind_ev, g_rfind4_ev, g_count_ev, g_count3_ev, g_count4_ev, g_startswith_ev, g_endswith_ev, Int.reduceToNat, List.getD_cons_zero, List.getD_cons_succ, List.length_map, List.length_reverse, Int.zero_mul, Int.mul_zero, Int.add_zero, Int.mul_one, nc0, nc1, nc2, nc3, nc4, nc5, nc6, nc7, nc8, nc9, nc10, nc11, nc12, nc13, List.cons_append, List.nil_append, decide_true, decide_false, not_false_eq_true, not_true_eq_false, mCallR_ev, retLE_rtL, retDE_rt, flatR_bl, flatR_int, flatR_str, flatR_non, flatR_exc, getOwn_own, mMut0_ev, mSetIx_ev, putIx_ok, rev_lst, lrep_ev, if_small, if_small', rngL_len, endS_nx, endS_rt, in_sign, notIn_sign, isN_str, notN_str, isN_tup, notN_tup, isi_int_int, isi_int_bool, isi_bl_bool, isi_bl_int, isi_str_str, isi_tup_tup, isi_lst_lst, isi_non_int, isi_non_tup, _root_.FL.R.ok_bind, _root_.FL.R.exc_bind, _root_.FL.R.stuck_bind, _root_.FL.R.pure_eq, List.append_nil, List.length_cons, List.length_nil, Nat.zero_add, Nat.reduceAdd, Nat.reduceLeDiff, Nat.reduceLT, and_self, and_true, true_and, nextK_nx, nextK_ct, nextK_bk, nextK_rt, nextK_rtL, nextK_ex, nextK_ite, decide_eq_true_eq, if_true, if_false, ite_true, ite_false, Bool.true_eq_false, Bool.false_eq_true, Bool.not_true, Bool.not_false, reduceIte, Bool.not_eq_true', decide_eq_false_iff_not, hk', Int.toNat_natCast, i0, i1]
    rfl
theorem e_partner_out (t : List Nat) (k : Int) (lt : t.length ≤ 600) (hk : t.length ≤ k) : p_partner [.str t, .int k] = .ok .non := by
  rw [u_partner]; unfold b_partner
  simp -implicitDefEqProofs (disch := first | omega | (simp only [List.length_map, List.length_append, List.length_cons, List.length_nil, List.length_take, List.length_drop, repS_len, rngL_len, List.length_range, List.length_reverse]; done) | (simp only [List.length_map, List.length_append, List.length_cons, List.length_nil, List.length_take, List.length_drop, repS_len, rngL_len, List.length_range, List.length_reverse]; omega)) only [mVar_ev, mVarR_ev, getV_val, getR_val, getR_own, mC_ev, mOp_ev, mOpL_ev, mT_ev, asB_bl, mAnd_ev, mOr_ev, mNot_ev, mAndV_ev, mOrV_ev, mNotV_ev, mIf_ev, mNil_ev, mCons_ev, mTup_ev, mLst_ev, mCall_ev, mPn_ev, mPs_ev, asI_int, mSl_ev, mSlL_ev, asL_lst, asL_scr, asTp_tup, asSt_str, R_ite, mWalk_ev, mLe_ev, mNeg_ev, mSeq_ev, mSkip_ev, bind_nx, bind_rt, bind_rtL, bind_bk, bind_ct, bind_ex, bind_ite, lift_ok, lift_exc, lift_ite, mAsg_ev, mAsgL_ev, mDrop_ev, mRet_ev, mRetL_ev, mRetN_ev, mRetOwn_ev, getO_own, mIfS_ev, mSet1_ev, onO_own, onO_val, mAppend_ev, putO_own, mAsgG_ev, optSO_some, gSet_ev, gsNil_ev, gsCons_ev, obind_some, gTupM_1, gTupM_2, gTupM_3, gTupM_4, gTupM_5, gTupM_6, mFor_ev, retD_nx, retD_rt, retD_rtL, retD_ex, retD_ite, retLs_rtL, retLs_ex, retLs_ite, nth_zero, nth_succ, set_zero, set_succ, add_int, add_str, add_lst, lcat_lst, sub_int', neg_int', lt_int', le_int', gt_int', ge_int', mod_int', fdiv_int, mul_int', mul_str', isN_non, isN_int, notN_non, notN_int, eq_int', ne_int', eq_str', ne_str', eq_bl', ne_bl', len_str', len_lst, len_tup, len_scr, max_int, min_int, sl_str', sl_lst, sl_scr, lsl_lst, lsl_scr, ix_str', ix_lst, ix_tup', ix_scr, range1_ok, range2_ok, range3_ok, mMeth_ev, onStr_str, mComp_ev, mCh_ev, wipeE_nil, wipeE_cons, mYes_ev, int_int, int_bl, asW_lst, asW_tup, asW_scr, asW_str, lt_str', le_str', gt_str', ge_str', mRaise_ev, sum_ints, all_bls, any_bls, list_lst, list_tup, list_scr, sorted_ints', g_find_ev, g_find3_ev, g_find4_ev, g_rfind_ev, g_rfind4_ev, g_count_ev, g_count3_ev, g_count4_ev, g_startswith_ev, g_endswith_ev, Int.reduceToNat, List.getD_cons_zero, List.getD_cons_succ, List.length_map, List.length_reverse, Int.zero_mul, Int.mul_zero, Int.add_zero, Int.mul_one, nc0, nc1, nc2, nc3, nc4, nc5, nc6, nc7, nc8, nc9, nc10, nc11, nc12, nc13, List.cons_append, List.nil_append, decide_true, decide_false, not_false_eq_true, not_true_eq_false, mCallR_ev, retLE_rtL, retDE_rt, flatR_bl, flatR_int, flatR_str, flatR_non, flatR_exc, getOwn_own, mMut0_ev, mSetIx_ev, putIx_ok, rev_lst, lrep_ev, if_small, if_small', rngL_len, endS_nx, endS_rt, in_sign, notIn_sign, isN_str, notN_str, isN_tup, notN_tup, isi_int_int, isi_int_bool, isi_bl_bool, isi_bl_int, isi_str_str, isi_tup_tup, isi_lst_lst, isi_non_int, isi_non_tup, _root_.FL.R.ok_bind, _root_.FL.R.exc_bind, _root_.FL.R.stuck_bind, _root_.FL.R.pure_eq, List.append_nil, List.length_cons, List.length_nil, Nat.zero_add, Nat.reduceAdd, Nat.reduceLeDiff, Nat.reduceLT, and_self, and_true, true_and, nextK_nx, nextK_ct, nextK_bk, nextK_rt, nextK_rtL, nextK_ex, nextK_ite, decide_eq_true_eq, if_true, if_false, ite_true, ite_false, Bool.true_eq_false, Bool.false_eq_true, Bool.not_true, Bool.not_false, reduceIte, Bool.not_eq_true', decide_eq_false_iff_not, hk]
theorem ptn_lt {t : List Nat} {k j : Nat} (hk : k < t.length) (h : ptn t k = some j) : j < t.length := by
  unfold ptn at h
  split at h
  · have := scn_lt h; omega
  split at h
  · have := scn_lt h; omega
  split at h
  · have := scn_lt h; omega
  split at h
  · have := scd_lt h; omega
  split at h
  · have := scd_lt h; omega
  split at h
  · have := scd_lt h; omega
  · cases h

/-! ### the moves, once -/
def Bw (t : List Nat) (v : Nat) : Bool := W t v && !W t ((v : Int) - 1)
def Ew (t : List Nat) (v : Nat) : Bool := W t ((v : Int) - 1) && !W t v
def isC (t : List Nat) (c v : Nat) : Bool := decide (t.getD v 0 = c)
inductive Mv where | h | l | j | k | b | e | w | v | o | f (c : Nat) | t (c : Nat) | z | p
def stpM (m : Mv) (t : List Nat) (p : Nat) : Option Nat := match m with
  | .h => if p = bgn t p then none else some (p - 1)
  | .l => if p = enn t p then none else some (p + 1)
  | .j => if enn t p = t.length then none else some (min (enn t p + 1 + (p - bgn t p)) (enn t (enn t p + 1)))
  | .k => if bgn t p = 0 then none else some (min (bgn t (bgn t p - 1) + (p - bgn t p)) (bgn t p - 1))
  | .b => some (bgn t p)
  | .e => some (enn t p)
  | .w => fstN (Bw t) (p + 1) (t.length - (p + 1))
  | .v => lstN (Bw t) 0 p
  | .o => fstN (Ew t) (p + 1) (t.length - p)
  | .f c => fstN (isC t c) (p + 1) (enn t p - (p + 1))
  | .t c => lstN (isC t c) (bgn t p) (p - bgn t p)
  | .z => some t.length
  | .p => if p < t.length ∧ t.getD p 0 ∈ [40, 91, 123] then (ptn t p).map (· + 1) else if 0 < p ∧ t.getD (p - 1) 0 ∈ [41, 93, 125] then ptn t (p - 1) else none
def mvD : Mv → D
  | .h => .obj "Left" []
  | .l => .obj "Right" []
  | .j => .obj "Down" []
  | .k => .obj "Up" []
  | .b => .obj "RowBegin" []
  | .e => .obj "RowEnd" []
  | .w => .obj "WordOn" []
  | .v => .obj "WordBack" []
  | .o => .obj "WordOut" []
  | .f c => .obj "Find" [("sign", .str [c])]
  | .t c => .obj "Trace" [("sign", .str [c])]
  | .z => .obj "TextEnd" []
  | .p => .obj "Across" []
def mvK : Mv → List Nat
  | .h => [104]
  | .l => [108]
  | .j => [106]
  | .k => [107]
  | .b => [98]
  | .e => [101]
  | .w => [119]
  | .v => [118]
  | .o => [111]
  | .f c => [102, c]
  | .t c => [116, c]
  | .z => [122]
  | .p => [112]
def mvP : Mv → List D → R D
  | .h => p_Left__step
  | .l => p_Right__step
  | .j => p_Down__step
  | .k => p_Up__step
  | .b => p_RowBegin__step
  | .e => p_RowEnd__step
  | .w => p_WordOn__step
  | .v => p_WordBack__step
  | .o => p_WordOut__step
  | .f _ => p_Find__step
  | .t _ => p_Trace__step
  | .z => p_TextEnd__step
  | .p => p_Across__step
theorem upLoop (q : Nat → Bool) (body : FL.Env → SO) (Γ : Nat → Slot → FL.Env) (hb : ∀ v x, body ((Γ v x).set 3 (.val (.int (v : Int)))) = if q v = true then .rt (.int (v : Int)) else .nx (Γ v (.val (.int (v : Int))))) (hΓ : ∀ v w x, Γ v x = Γ w x) : ∀ (n a : Nat) (x : Slot), ∃ Γ', forL (gSet 3) body (rngL (a : Int) 1 n) (Γ 0 x) = endL (fstN q a n) Γ'
  | 0, a, x => ⟨_, rfl⟩
  | n + 1, a, x => by
    rw [rngL_up, forL_set, hΓ 0 a x, hb a x]
    unfold fstN
    by_cases h : q a = true
    · rw [if_pos h, if_pos h]; exact ⟨[], rfl⟩
    · rw [if_neg h, if_neg h, nextK_nx, hΓ a 0]; exact upLoop q body Γ hb hΓ n (a + 1) _
theorem dnLoop (q : Nat → Bool) (body : FL.Env → SO) (Γ : Nat → Slot → FL.Env) (hb : ∀ v x, body ((Γ v x).set 3 (.val (.int (v : Int)))) = if q v = true then .rt (.int (v : Int)) else .nx (Γ v (.val (.int (v : Int))))) (hΓ : ∀ v w x, Γ v x = Γ w x) : ∀ (n : Nat) (x : Slot), ∃ Γ', forL (gSet 3) body (rngL ((n : Int) - 1) (-1) n) (Γ 0 x) = endL (lstN q 0 n) Γ'
  | 0, x => ⟨_, rfl⟩
  | n + 1, x => by
    rw [rngL_down, forL_set, hΓ 0 n x, hb n x]
    unfold lstN
    rw [Nat.zero_add]
    by_cases h : q n = true
    · rw [if_pos h, if_pos h]; exact ⟨[], rfl⟩
    · rw [if_neg h, if_neg h, nextK_nx, hΓ n 0]; exact dnLoop q body Γ hb hΓ n _
theorem endRet (r : Option Nat) (Γ : FL.Env) : retD ((endL r Γ).bind fun _ => .rt .non) = .ok (oD r) := by cases r <;> rfl
theorem endBind (r : Option Nat) (Γ : FL.Env) : retD ((endL r Γ).bind (mRet (mC .non))) = .ok (oD r) := by cases r <;> rfl
section
variable (t : List Nat) (p : Nat) (lt : t.length ≤ 600) (hp : p ≤ t.length)
include lt hp
theorem e_step_w (o : D) : p_WordOn__step [o, .str t, .int (p : Int)] = .ok (oD (stpM .w t p)) := by
  rw [u_WordOn__step]; unfold b_WordOn__step
  obtain ⟨Γ', e⟩ := upLoop (Bw t) b_WordOn__step_l1 (fun _ x => [.val o, .val (.str t), .val (.int (p : Int)), x]) (fun v x => by
    show b_WordOn__step_l1 [.val o, .val (.str t), .val (.int (p : Int)), .val (.int (v : Int))] = _
    unfold b_WordOn__step_l1
    have eb := e_begins t (v : Int) (by omega)
    show _ = if (W t v && !W t ((v : Int) - 1)) = true then _ else _
    cases h : (W t v && !W t ((v : Int) - 1))
    · rw [h] at eb; simp -implicitDefEqProofs (disch := first | omega | (simp only [List.length_map, List.length_append, List.length_cons, List.length_nil, List.length_take, List.length_drop, repS_len, rngL_len, List.length_range, List.length_reverse]; done) | (simp only [List.length_map, List.length_append, List.length_cons, List.length_nil, List.length_take, List.length_drop, repS_len, rngL_len, List.length_range, List.length_reverse]; omega)) only [mVar_ev, mVarR_ev, getV_val, getR_val, getR_own, mC_ev, mOp_ev, mOpL_ev, mT_ev, asB_bl, mAnd_ev, mOr_ev, mNot_ev, mAndV_ev, mOrV_ev, mNotV_ev, mIf_ev, mNil_ev, mCons_ev, mTup_ev, mLst_ev, mCall_ev, mPn_ev, mPs_ev, asI_int, mSl_ev, mSlL_ev, asL_lst, asL_scr, asTp_tup, asSt_str, R_ite, mWalk_ev, mLe_ev, mNeg_ev, mSeq_ev, mSkip_ev, bind_nx, bind_rt, bind_rtL, bind_bk, bind_ct, bind_ex, bind_ite, lift_ok, lift_exc, lift_ite, mAsg_ev, mAsgL_ev, mDrop_ev, mRet_ev, mRetL_ev, mRetN_ev, mRetOwn_ev, getO_own, mIfS_ev, mSet1_ev, onO_own, onO_val, mAppend_ev, putO_own, mAsgG_ev, optSO_some, gSet_ev, gsNil_ev, gsCons_ev, obind_some, gTupM_1, gTupM_2, gTupM_3, gTupM_4, gTupM_5, gTupM_6, mFor_ev, retD_nx, retD_rt, retD_rtL, retD_ex, retD_ite, retLs_rtL, retLs_ex, retLs_ite, nth_zero, nth_succ, set_zero, set_succ, add_int, add_str, add_lst, lcat_lst, sub_int', neg_int', lt_int', le_int', gt_int', ge_int', mod_int', fdiv_int, mul_int', mul_str', isN_non, isN_int, notN_non, notN_int, eq_int', ne_int', eq_str', ne_str', eq_bl', ne_bl', len_str', len_lst, len_tup, len_scr, max_int, min_int, sl_str', sl_lst, sl_scr, lsl_lst, lsl_scr, ix_str', ix_lst, ix_tup', ix_scr, range1_ok, range2_ok, range3_ok, mMeth_ev, onStr_str, mComp_ev, mCh_ev, wipeE_nil, wipeE_cons, mYes_ev, int_int, int_bl, asW_lst, asW_tup, asW_scr, asW_str, lt_str', le_str', gt_str', ge_str', mRaise_ev, sum_ints, all_bls, any_bls, list_lst, list_tup, list_scr, sorted_ints', g_find_ev, g_find3_ev, g_find4_ev, g_rfind_ev, g_rfind4_ev, g_count_ev, g_count3_ev, g_count4_ev, g_startswith_ev, g_endswith_ev, Int.reduceToNat, List.getD_cons_zero, List.getD_cons_succ, List.length_map, List.length_reverse, Int.zero_mul, Int.mul_zero, Int.add_zero, Int.mul_one, nc0, nc1, nc2, nc3, nc4, nc5, nc6, nc7, nc8, nc9, nc10, nc11, nc12, nc13, List.cons_append, List.nil_append, decide_true, decide_false, not_false_eq_true, not_true_eq_false, mCallR_ev, retLE_rtL, retDE_rt, flatR_bl, flatR_int, flatR_str, flatR_non, flatR_exc, getOwn_own, mMut0_ev, mSetIx_ev, putIx_ok, rev_lst, lrep_ev, if_small, if_small', rngL_len, endS_nx, endS_rt, in_sign, notIn_sign, isN_str, notN_str, isN_tup, notN_tup, isi_int_int, isi_int_bool, isi_bl_bool, isi_bl_int, isi_str_str, isi_tup_tup, isi_lst_lst, isi_non_int, isi_non_tup, _root_.FL.R.ok_bind, _root_.FL.R.exc_bind, _root_.FL.R.stuck_bind, _root_.FL.R.pure_eq, List.append_nil, List.length_cons, List.length_nil, Nat.zero_add, Nat.reduceAdd, Nat.reduceLeDiff, Nat.reduceLT, and_self, and_true, true_and, nextK_nx, nextK_ct, nextK_bk, nextK_rt, nextK_rtL, nextK_ex, nextK_ite, decide_eq_true_eq, if_true, if_false, ite_true, ite_false, Bool.true_eq_false, Bool.false_eq_true, Bool.not_true, Bool.not_false, reduceIte, Bool.not_eq_true', decide_eq_false_iff_not, eb]
    · rw [h] at eb; simp -implicitDefEqProofs (disch := first | omega | (simp only [List.length_map, List.length_append, List.length_cons, List.length_nil, List.length_take, List.length_drop, repS_len, rngL_len, List.length_range, List.length_reverse]; done) | (simp only [List.length_map, List.length_append, List.length_cons, List.length_nil, List.length_take, List.length_drop, repS_len, rngL_len, List.length_range, List.length_reverse]; omega)) only [mVar_ev, mVarR_ev, getV_val, getR_val, getR_own, mC_ev, mOp_ev, mOpL_ev, mT_ev, asB_bl, mAnd_ev, mOr_ev, mNot_ev, mAndV_ev, mOrV_ev, mNotV_ev, mIf_ev, mNil_ev, mCons_ev, mTup_ev, mLst_ev, mCall_ev, mPn_ev, mPs_ev, asI_int, mSl_ev, mSlL_ev, asL_lst, asL_scr, asTp_tup, asSt_str, R_ite, mWalk_ev, mLe_ev, mNeg_ev, mSeq_ev, mSkip_ev, bind_nx, bind_rt, bind_rtL, bind_bk, bind_ct, bind_ex, bind_ite, lift_ok, lift_exc, lift_ite, mAsg_ev, mAsgL_ev, mDrop_ev, mRet_ev, mRetL_ev, mRetN_ev, mRetOwn_ev, getO_own, mIfS_ev, mSet1_ev, onO_own, onO_val, mAppend_ev, putO_own, mAsgG_ev, optSO_some, gSet_ev, gsNil_ev, gsCons_ev, obind_some, gTupM_1, gTupM_2, gTupM_3, gTupM_4, gTupM_5, gTupM_6, mFor_ev, retD_nx, retD_rt, retD_rtL, retD_ex, retD_ite, retLs_rtL, retLs_ex, retLs_ite, nth_zero, nth_succ, set_zero, set_succ, add_int, add_str, add_lst, lcat_lst, sub_int', neg_int', lt_int', le_int', gt_int', ge_int', mod_int', fdiv_int, mul_int', mul_str', isN_non, isN_int, notN_non, notN_int, eq_int', ne_int', eq_str', ne_str', eq_bl', ne_bl', len_str', len_lst, len_tup, len_scr, max_int, min_int, sl_str', sl_lst, sl_scr, lsl_lst, lsl_scr, ix_str', ix_lst, ix_tup', ix_scr, range1_ok, range2_ok, range3_ok, mMeth_ev, onStr_str, mComp_ev, mCh_ev, wipeE_nil, wipeE_cons, mYes_ev, int_int, int_bl, asW_lst, asW_tup, asW_scr, asW_str, lt_str', le_str', gt_str', ge_str', mRaise_ev, sum_ints, all_bls, any_bls, list_lst, list_tup, list_scr, sorted_ints', g_find_ev, g_find3_ev, g_find4_ev, g_rfind_ev, g_rfind4_ev, g_count_ev, g_count3_ev, g_count4_ev, g_startswith_ev, g_endswith_ev, Int.reduceToNat, List.getD_cons_zero, List.getD_cons_succ, List.length_map, List.length_reverse, Int.zero_mul, Int.mul_zero, Int.add_zero, Int.mul_one, nc0, nc1, nc2, nc3, nc4, nc5, nc6, nc7, nc8, nc9, nc10, nc11, nc12, nc13, List.cons_append, List.nil_append, decide_true, decide_false, not_false_eq_true, not_true_eq_false, mCallR_ev, retLE_rtL, retDE_rt, flatR_bl, flatR_int, flatR_str, flatR_non, flatR_exc, getOwn_own, mMut0_ev, mSetIx_ev, putIx_ok, rev_lst, lrep_ev, if_small, if_small', rngL_len, endS_nx, endS_rt, in_sign, notIn_sign, isN_str, notN_str, isN_tup, notN_tup, isi_int_int, isi_int_bool, isi_bl_bool, isi_bl_int, isi_str_str, isi_tup_tup, isi_lst_lst, isi_non_int, isi_non_tup, _root_.FL.R.ok_bind, _root_.FL.R.exc_bind, _root_.FL.R.stuck_bind, _root_.FL.R.pure_eq, List.append_nil, List.length_cons, List.length_nil, Nat.zero_add, Nat.reduceAdd, Nat.reduceLeDiff, Nat.reduceLT, and_self, and_true, true_and, nextK_nx, nextK_ct, nextK_bk, nextK_rt, nextK_rtL, nextK_ex, nextK_ite, decide_eq_true_eq, if_true, if_false, ite_true, ite_false, Bool.true_eq_false, Bool.false_eq_true, Bool.not_true, Bool.not_false, reduceIte, Bool.not_eq_true', decide_eq_false_iff_not, eb]) (fun _ _ _ => rfl) (t.length - (p + 1)) (p + 1) .no
  have rr : ((t.length : Int) - ((p : Int) + 1)).toNat = t.length - (p + 1) := by omega
  have r2 : ((p : Int) + 1) = ((p + 1 : Nat) : Int) := by omega
  simp -implicitDefEqProofs (disch := first | omega | (simp only [List.length_map, List.length_append, List.length_cons, List.length_nil, List.length_take, List.length_drop, repS_len, rngL_len, List.length_range, List.length_reverse]; done) | (simp only [List.length_map, List.length_append, List.length_cons, List.length_nil, List.length_take, List.length_drop, repS_len, rngL_len, List.length_range, List.length_reverse]; omega)) only [mVar_ev, mVarR_ev, getV_val, getR_val, getR_own, mC_ev, mOp_ev, mOpL_ev, mT_ev, asB_bl, mAnd_ev, mOr_ev, mNot_ev, mAndV_ev, mOrV_ev, mNotV_ev, mIf_ev, mNil_ev, mCons_ev, mTup_ev, mLst_ev, mCall_ev, mPn_ev, mPs_ev, asI_int, mSl_ev, mSlL_ev, asL_lst, asL_scr, asTp_tup, asSt_str, R_ite, mWalk_ev, mLe_ev, mNeg_ev, mSeq_ev, mSkip_ev, bind_rt, bind_rtL, bind_bk, bind_ct, bind_ex, bind_ite, lift_ok, lift_exc, lift_ite, mAsg_ev, mAsgL_ev, mDrop_ev, mRet_ev, mRetL_ev, mRetN_ev, mRetOwn_ev, getO_own, mIfS_ev, mSet1_ev, onO_own, onO_val, mAppend_ev, putO_own, mAsgG_ev, optSO_some, gSet_ev, gsNil_ev, gsCons_ev, obind_some, gTupM_1, gTupM_2, gTupM_3, gTupM_4, gTupM_5, gTupM_6, mFor_ev, retD_nx, retD_rt, retD_rtL, retD_ex, retD_ite, retLs_rtL, retLs_ex, retLs_ite, nth_zero, nth_succ, set_zero, set_succ, add_int, add_str, add_lst, lcat_lst, sub_int', neg_int', lt_int', le_int', gt_int', ge_int', mod_int', fdiv_int, mul_int', mul_str', isN_non, isN_int, notN_non, notN_int, eq_int', ne_int', eq_str', ne_str', eq_bl', ne_bl', len_str', len_lst, len_tup, len_scr, max_int, min_int, sl_str', sl_lst, sl_scr, lsl_lst, lsl_scr, ix_str', ix_lst, ix_tup', ix_scr, range1_ok, range2_ok, range3_ok, mMeth_ev, onStr_str, mComp_ev, mCh_ev, wipeE_nil, wipeE_cons, mYes_ev, int_int, int_bl, asW_lst, asW_tup, asW_scr, asW_str, lt_str', le_str', gt_str', ge_str', mRaise_ev, sum_ints, all_bls, any_bls, list_lst, list_tup, list_scr, sorted_ints', g_find_ev, g_find3_ev, g_find4_ev, g_rfind_ev, g_rfind4_ev, g_count_ev, g_count3_ev, g_count4_ev, g_startswith_ev, g_endswith_ev, Int.reduceToNat, List.getD_cons_zero, List.getD_cons_succ, List.length_map, List.length_reverse, Int.zero_mul, Int.mul_zero, Int.add_zero, Int.mul_one, nc0, nc1, nc2, nc3, nc4, nc5, nc6, nc7, nc8, nc9, nc10, nc11, nc12, nc13, List.cons_append, List.nil_append, decide_true, decide_false, not_false_eq_true, not_true_eq_false, mCallR_ev, retLE_rtL, retDE_rt, flatR_bl, flatR_int, flatR_str, flatR_non, flatR_exc, getOwn_own, mMut0_ev, mSetIx_ev, putIx_ok, rev_lst, lrep_ev, if_small, if_small', rngL_len, endS_nx, endS_rt, in_sign, notIn_sign, isN_str, notN_str, isN_tup, notN_tup, isi_int_int, isi_int_bool, isi_bl_bool, isi_bl_int, isi_str_str, isi_tup_tup, isi_lst_lst, isi_non_int, isi_non_tup, _root_.FL.R.ok_bind, _root_.FL.R.exc_bind, _root_.FL.R.stuck_bind, _root_.FL.R.pure_eq, List.append_nil, List.length_cons, List.length_nil, Nat.zero_add, Nat.reduceAdd, Nat.reduceLeDiff, Nat.reduceLT, and_self, and_true, true_and, nextK_nx, nextK_ct, nextK_bk, nextK_rt, nextK_rtL, nextK_ex, nextK_ite, decide_eq_true_eq, if_true, if_false, ite_true, ite_false, Bool.true_eq_false, Bool.false_eq_true, Bool.not_true, Bool.not_false, reduceIte, Bool.not_eq_true', decide_eq_false_iff_not, rr]
  rw [r2, e]
  exact endBind _ _
theorem e_step_v (o : D) : p_WordBack__step [o, .str t, .int (p : Int)] = .ok (oD (stpM .v t p)) := by
  rw [u_WordBack__step]; unfold b_WordBack__step
  obtain ⟨Γ', e⟩ := dnLoop (Bw t) b_WordBack__step_l1 (fun _ x => [.val o, .val (.str t), .val (.int (p : Int)), x]) (fun v x => by
    show b_WordBack__step_l1 [.val o, .val (.str t), .val (.int (p : Int)), .val (.int (v : Int))] = _
    unfold b_WordBack__step_l1
    have eb := e_begins t (v : Int) (by omega)
    show _ = if (W t v && !W t ((v : Int) - 1)) = true then _ else _
    cases h : (W t v && !W t ((v : Int) - 1))
    · rw [h] at eb; simp -implicitDefEqProofs (disch := first | omega | (simp only [List.length_map, List.length_append, List.length_cons, List.length_nil, List.length_take, List.length_drop, repS_len, rngL_len, List.length_range, List.length_reverse]; done) | (simp only [List.length_map, List.length_append, List.length_cons, List.length_nil, List.length_take, List.length_drop, repS_len, rngL_len, List.length_range, List.length_reverse]; omega)) only [mVar_ev, mVarR_ev, getV_val, getR_val, getR_own, mC_ev, mOp_ev, mOpL_ev, mT_ev, asB_bl, mAnd_ev, mOr_ev, mNot_ev, mAndV_ev, mOrV_ev, mNotV_ev, mIf_ev, mNil_ev, mCons_ev, mTup_ev, mLst_ev, mCall_ev, mPn_ev, mPs_ev, asI_int, mSl_ev, mSlL_ev, asL_lst, asL_scr, asTp_tup, asSt_str, R_ite, mWalk_ev, mLe_ev, mNeg_ev, mSeq_ev, mSkip_ev, bind_nx, bind_rt, bind_rtL, bind_bk, bind_ct, bind_ex, bind_ite, lift_ok, lift_exc, lift_ite, mAsg_ev, mAsgL_ev, mDrop_ev, mRet_ev, mRetL_ev, mRetN_ev, mRetOwn_ev, getO_own, mIfS_ev, mSet1_ev, onO_own, onO_val, mAppend_ev, putO_own, mAsgG_ev, optSO_some, gSet_ev, gsNil_ev, gsCons_ev, obind_some, gTupM_1, gTupM_2, gTupM_3, gTupM_4, gTupM_5, gTupM_6, mFor_ev, retD_nx, retD_rt, retD_rtL, retD_ex, retD_ite, retLs_rtL, retLs_ex, retLs_ite, nth_zero, nth_succ, set_zero, set_succ, add_int, add_str, add_lst, lcat_lst, sub_int', neg_int', lt_int', le_int', gt_int', ge_int', mod_int', fdiv_int, mul_int', mul_str', isN_non, isN_int, notN_non, notN_int, eq_int', ne_int', eq_str', ne_str', eq_bl', ne_bl', len_str', len_lst, len_tup, len_scr, max_int, min_int, sl_str', sl_lst, sl_scr, lsl_lst, lsl_scr, ix_str', ix_lst, ix_tup', ix_scr, range1_ok, range2_ok, range3_ok, mMeth_ev, onStr_str, mComp_ev, mCh_ev, wipeE_nil, wipeE_cons, mYes_ev, int_int, int_bl, asW_lst, asW_tup, asW_scr, asW_str, lt_str', le_str', gt_str', ge_str', mRaise_ev, sum_ints, all_bls, any_bls, list_lst, list_tup, list_scr, sorted_ints', g_find_ev, g_find3_ev, g_find4_ev, g_rfind_ev, g_rfind4_ev, g_count_ev, g_count3_ev, g_count4_ev, g_startswith_ev, g_endswith_ev, Int.reduceToNat, List.getD_cons_zero, List.getD_cons_succ, List.length_map, List.length_reverse, Int.zero_mul, Int.mul_zero, Int.add_zero, Int.mul_one, nc0, nc1, nc2, nc3, nc4, nc5, nc6, nc7, nc8, nc9, nc10, nc11, nc12, nc13, List.cons_append, List.nil_append, decide_true, decide_false, not_false_eq_true, not_true_eq_false, mCallR_ev, retLE_rtL, retDE_rt, flatR_bl, flatR_int, flatR_str, flatR_non, flatR_exc, getOwn_own, mMut0_ev, mSetIx_ev, putIx_ok, rev_lst, lrep_ev, if_small, if_small', rngL_len, endS_nx, endS_rt, in_sign, notIn_sign, isN_str, notN_str, isN_tup, notN_tup, isi_int_int, isi_int_bool, isi_bl_bool, isi_bl_int, isi_str_str, isi_tup_tup, isi_lst_lst, isi_non_int, isi_non_tup, _root_.FL.R.ok_bind, _root_.FL.R.exc_bind, _root_.FL.R.stuck_bind, _root_.FL.R.pure_eq, List.append_nil, List.length_cons, List.length_nil, Nat.zero_add, Nat.reduceAdd, Nat.reduceLeDiff, Nat.reduceLT, and_self, and_true, true_and, nextK_nx, nextK_ct, nextK_bk, nextK_rt, nextK_rtL, nextK_ex, nextK_ite, decide_eq_true_eq, if_true, if_false, ite_true, ite_false, Bool.true_eq_false, Bool.false_eq_true, Bool.not_true, Bool.not_false, reduceIte, Bool.not_eq_true', decide_eq_false_iff_not, eb]
    · rw [h] at eb; simp -implicitDefEqProofs (disch := first | omega | (simp only [List.length_map, List.length_append, List.length_cons, List.length_nil, List.length_take, List.length_drop, repS_len, rngL_len, List.length_range, List.length_reverse]; done) | (simp only [List.length_map, List.length_append, List.length_cons, List.length_nil, List.length_take, List.length_drop, repS_len, rngL_len, List.length_range, List.length_reverse]; omega)) only [mVar_ev, mVarR_ev, getV_val, getR_val, getR_own, mC_ev, mOp_ev, mOpL_ev, mT_ev, asB_bl, mAnd_ev, mOr_ev, mNot_ev, mAndV_ev, mOrV_ev, mNotV_ev, mIf_ev, mNil_ev, mCons_ev, mTup_ev, mLst_ev, mCall_ev, mPn_ev, mPs_ev, asI_int, mSl_ev, mSlL_ev, asL_lst, asL_scr, asTp_tup, asSt_str, R_ite, mWalk_ev, mLe_ev, mNeg_ev, mSeq_ev, mSkip_ev, bind_nx, bind_rt, bind_rtL, bind_bk, bind_ct, bind_ex, bind_ite, lift_ok, lift_exc, lift_ite, mAsg_ev, mAsgL_ev, mDrop_ev, mRet_ev, mRetL_ev, mRetN_ev, mRetOwn_ev, getO_own, mIfS_ev, mSet1_ev, onO_own, onO_val, mAppend_ev, putO_own, mAsgG_ev, optSO_some, gSet_ev, gsNil_ev, gsCons_ev, obind_some, gTupM_1, gTupM_2, gTupM_3, gTupM_4, gTupM_5, gTupM_6, mFor_ev, retD_nx, retD_rt, retD_rtL, retD_ex, retD_ite, retLs_rtL, retLs_ex, retLs_ite, nth_zero, nth_succ, set_zero, set_succ, add_int, add_str, add_lst, lcat_lst, sub_int', neg_int', lt_int', le_int', gt_int', ge_int', mod_int', fdiv_int, mul_int', mul_str', isN_non, isN_int, notN_non, notN_int, eq_int', ne_int', eq_str', ne_str', eq_bl', ne_bl', len_str', len_lst, len_tup, len_scr, max_int, min_int, sl_str', sl_lst, sl_scr, lsl_lst, lsl_scr, ix_str', ix_lst, ix_tup', ix_scr, range1_ok, range2_ok, range3_ok, mMeth_ev, onStr_str, mComp_ev, mCh_ev, wipeE_nil, wipeE_cons, mYes_ev, int_int, int_bl, asW_lst, asW_tup, asW_scr, asW_str, lt_str', le_str', gt_str', ge_str', mRaise_ev, sum_ints, all_bls, any_bls, list_lst, list_tup, list_scr, sorted_ints', g_find_ev, g_find3_ev, g_find4_ev, g_rfind_ev, g_rfind4_ev, g_count_ev, g_count3_ev, g_count4_ev, g_startswith_ev, g_endswith_ev, Int.reduceToNat, List.getD_cons_zero, List.getD_cons_succ, List.length_map, List.length_reverse, Int.zero_mul, Int.mul_zero, Int.add_zero, Int.mul_one, nc0, nc1, nc2, nc3, nc4, nc5, nc6, nc7, nc8, nc9, nc10, nc11, nc12, nc13, List.cons_append, List.nil_append, decide_true, decide_false, not_false_eq_true, not_true_eq_false, mCallR_ev, retLE_rtL, retDE_rt, flatR_bl, flatR_int, flatR_str, flatR_non, flatR_exc, getOwn_own, mMut0_ev, mSetIx_ev, putIx_ok, rev_lst, lrep_ev, if_small, if_small', rngL_len, endS_nx, endS_rt, in_sign, notIn_sign, isN_str, notN_str, isN_tup, notN_tup, isi_int_int, isi_int_bool, isi_bl_bool, isi_bl_int, isi_str_str, isi_tup_tup, isi_lst_lst, isi_non_int, isi_non_tup, _root_.FL.R.ok_bind, _root_.FL.R.exc_bind, _root_.FL.R.stuck_bind, _root_.FL.R.pure_eq, List.append_nil, List.length_cons, List.length_nil, Nat.zero_add, Nat.reduceAdd, Nat.reduceLeDiff, Nat.reduceLT, and_self, and_true, true_and, nextK_nx, nextK_ct, nextK_bk, nextK_rt, nextK_rtL, nextK_ex, nextK_ite, decide_eq_true_eq, if_true, if_false, ite_true, ite_false, Bool.true_eq_false, Bool.false_eq_true, Bool.not_true, Bool.not_false, reduceIte, Bool.not_eq_true', decide_eq_false_iff_not, eb]) (fun _ _ _ => rfl) p .no
  have rr : ((p : Int) - 1 - -1).toNat = p := by omega
  simp -implicitDefEqProofs (disch := first | omega | (simp only [List.length_map, List.length_append, List.length_cons, List.length_nil, List.length_take, List.length_drop, repS_len, rngL_len, List.length_range, List.length_reverse]; done) | (simp only [List.length_map, List.length_append, List.length_cons, List.length_nil, List.length_take, List.length_drop, repS_len, rngL_len, List.length_range, List.length_reverse]; omega)) only [mVar_ev, mVarR_ev, getV_val, getR_val, getR_own, mC_ev, mOp_ev, mOpL_ev, mT_ev, asB_bl, mAnd_ev, mOr_ev, mNot_ev, mAndV_ev, mOrV_ev, mNotV_ev, mIf_ev, mNil_ev, mCons_ev, mTup_ev, mLst_ev, mCall_ev, mPn_ev, mPs_ev, asI_int, mSl_ev, mSlL_ev, asL_lst, asL_scr, asTp_tup, asSt_str, R_ite, mWalk_ev, mLe_ev, mNeg_ev, mSeq_ev, mSkip_ev, bind_rt, bind_rtL, bind_bk, bind_ct, bind_ex, bind_ite, lift_ok, lift_exc, lift_ite, mAsg_ev, mAsgL_ev, mDrop_ev, mRet_ev, mRetL_ev, mRetN_ev, mRetOwn_ev, getO_own, mIfS_ev, mSet1_ev, onO_own, onO_val, mAppend_ev, putO_own, mAsgG_ev, optSO_some, gSet_ev, gsNil_ev, gsCons_ev, obind_some, gTupM_1, gTupM_2, gTupM_3, gTupM_4, gTupM_5, gTupM_6, mFor_ev, retD_nx, retD_rt, retD_rtL, retD_ex, retD_ite, retLs_rtL, retLs_ex, retLs_ite, nth_zero, nth_succ, set_zero, set_succ, add_int, add_str, add_lst, lcat_lst, sub_int', neg_int', lt_int', le_int', gt_int', ge_int', mod_int', fdiv_int, mul_int', mul_str', isN_non, isN_int, notN_non, notN_int, eq_int', ne_int', eq_str', ne_str', eq_bl', ne_bl', len_str', len_lst, len_tup, len_scr, max_int, min_int, sl_str', sl_lst, sl_scr, lsl_lst, lsl_scr, ix_str', ix_lst, ix_tup', ix_scr, range1_ok, range2_ok, range3_ok, mMeth_ev, onStr_str, mComp_ev, mCh_ev, wipeE_nil, wipeE_cons, mYes_ev, int_int, int_bl, asW_lst, asW_tup, asW_scr, asW_str, lt_str', le_str', gt_str', ge_str', mRaise_ev, sum_ints, all_bls, any_bls, list_lst, list_tup, list_scr, sorted_ints', g_find_ev, g_find3_ev, g_find4_ev, g_rfind_ev, g_rfind4_ev, g_count_ev, g_count3_ev, g_count4_ev, g_startswith_ev, g_endswith_ev, Int.reduceToNat, List.getD_cons_zero, List.getD_cons_succ, List.length_map, List.length_reverse, Int.zero_mul, Int.mul_zero, Int.add_zero, Int.mul_one, nc0, nc1, nc2, nc3, nc4, nc5, nc6, nc7, nc8, nc9, nc10, nc11, nc12, nc13, List.cons_append, List.nil_append, decide_true, decide_false, not_false_eq_true, not_true_eq_false, mCallR_ev, retLE_rtL, retDE_rt, flatR_bl, flatR_int, flatR_str, flatR_non, flatR_exc, getOwn_own, mMut0_ev, mSetIx_ev, putIx_ok, rev_lst, lrep_ev, if_small, if_small', rngL_len, endS_nx, endS_rt, in_sign, notIn_sign, isN_str, notN_str, isN_tup, notN_tup, isi_int_int, isi_int_bool, isi_bl_bool, isi_bl_int, isi_str_str, isi_tup_tup, isi_lst_lst, isi_non_int, isi_non_tup, _root_.FL.R.ok_bind, _root_.FL.R.exc_bind, _root_.FL.R.stuck_bind, _root_.FL.R.pure_eq, List.append_nil, List.length_cons, List.length_nil, Nat.zero_add, Nat.reduceAdd, Nat.reduceLeDiff, Nat.reduceLT, and_self, and_true, true_and, nextK_nx, nextK_ct, nextK_bk, nextK_rt, nextK_rtL, nextK_ex, nextK_ite, decide_eq_true_eq, if_true, if_false, ite_true, ite_false, Bool.true_eq_false, Bool.false_eq_true, Bool.not_true, Bool.not_false, reduceIte, Bool.not_eq_true', decide_eq_false_iff_not, rr, e]
  exact endBind _ _
theorem e_step_o (o : D) : p_WordOut__step [o, .str t, .int (p : Int)] = .ok (oD (stpM .o t p)) := by
  rw [u_WordOut__step]; unfold b_WordOut__step
  obtain ⟨Γ', e⟩ := upLoop (Ew t) b_WordOut__step_l1 (fun _ x => [.val o, .val (.str t), .val (.int (p : Int)), x]) (fun v x => by
    show b_WordOut__step_l1 [.val o, .val (.str t), .val (.int (p : Int)), .val (.int (v : Int))] = _
    unfold b_WordOut__step_l1
    have eb := e_ends t (v : Int) (by omega)
    show _ = if (W t ((v : Int) - 1) && !W t v) = true then _ else _
    cases h : (W t ((v : Int) - 1) && !W t v)
    · rw [h] at eb; simp -implicitDefEqProofs (disch := first | omega | (simp only [List.length_map, List.length_append, List.length_cons, List.length_nil, List.length_take, List.length_drop, repS_len, rngL_len, List.length_range, List.length_reverse]; done) | (simp only [List.length_map, List.length_append, List.length_cons, List.length_nil, List.length_take, List.length_drop, repS_len, rngL_len, List.length_range, List.length_reverse]; omega)) only [mVar_ev, mVarR_ev, getV_val, getR_val, getR_own, mC_ev, mOp_ev, mOpL_ev, mT_ev, asB_bl, mAnd_ev, mOr_ev, mNot_ev, mAndV_ev, mOrV_ev, mNotV_ev, mIf_ev, mNil_ev, mCons_ev, mTup_ev, mLst_ev, mCall_ev, mPn_ev, mPs_ev, asI_int, mSl_ev, mSlL_ev, asL_lst, asL_scr, asTp_tup, asSt_str, R_ite, mWalk_ev, mLe_ev, mNeg_ev, mSeq_ev, mSkip_ev, bind_nx, bind_rt, bind_rtL, bind_bk, bind_ct, bind_ex, bind_ite, lift_ok, lift_exc, lift_ite, mAsg_ev, mAsgL_ev, mDrop_ev, mRet_ev, mRetL_ev, mRetN_ev, mRetOwn_ev, getO_own, mIfS_ev, mSet1_ev, onO_own, onO_val, mAppend_ev, putO_own, mAsgG_ev, optSO_some, gSet_ev, gsNil_ev, gsCons_ev, obind_some, gTupM_1, gTupM_2, gTupM_3, gTupM_4, gTupM_5, gTupM_6, mFor_ev, retD_nx, retD_rt, retD_rtL, retD_ex, retD_ite, retLs_rtL, retLs_ex, retLs_ite, nth_zero, nth_succ, set_zero, set_succ, add_int, add_str, add_lst, lcat_lst, sub_int', neg_int', lt_int', le_int', gt_int', ge_int', mod_int', fdiv_int, mul_int', mul_str', isN_non, isN_int, notN_non, notN_int, eq_int', ne_int', eq_str', ne_str', eq_bl', ne_bl', len_str', len_lst, len_tup, len_scr, max_int, min_int, sl_str', sl_lst, sl_scr, lsl_lst, lsl_scr, ix_str', ix_lst, ix_tup', ix_scr, range1_ok, range2_ok, range3_ok, mMeth_ev, onStr_str, mComp_ev, mCh_ev, wipeE_nil, wipeE_cons, mYes_ev, int_int, int_bl, asW_lst, asW_tup, asW_scr, asW_str, lt_str', le_str', gt_str', ge_str', mRaise_ev, sum_ints, all_bls, any_bls, list_lst, list_tup, list_scr, sorted_ints', g_find_ev, g_find3_ev, g_find4_ev, g_rfind_ev, g_rfind4_ev, g_count_ev, g_count3_ev, g_count4_ev, g_startswith_ev, g_endswith_ev, Int.reduceToNat, List.getD_cons_zero, List.getD_cons_succ, List.length_map, List.length_reverse, Int.zero_mul, Int.mul_zero, Int.add_zero, Int.mul_one, nc0, nc1, nc2, nc3, nc4, nc5, nc6, nc7, nc8, nc9, nc10, nc11, nc12, nc13, List.cons_append, List.nil_append, decide_true, decide_false, not_false_eq_true, not_true_eq_false, mCallR_ev, retLE_rtL, retDE_rt, flatR_bl, flatR_int, flatR_str, flatR_non, flatR_exc, getOwn_own, mMut0_ev, mSetIx_ev, putIx_ok, rev_lst, lrep_ev, if_small, if_small', rngL_len, endS_nx, endS_rt, in_sign, notIn_sign, isN_str, notN_str, isN_tup, notN_tup, isi_int_int, isi_int_bool, isi_bl_bool, isi_bl_int, isi_str_str, isi_tup_tup, isi_lst_lst, isi_non_int, isi_non_tup, _root_.FL.R.ok_bind, _root_.FL.R.exc_bind, _root_.FL.R.stuck_bind, _root_.FL.R.pure_eq, List.append_nil, List.length_cons, List.length_nil, Nat.zero_add, Nat.reduceAdd, Nat.reduceLeDiff, Nat.reduceLT, and_self, and_true, true_and, nextK_nx, nextK_ct, nextK_bk, nextK_rt, nextK_rtL, nextK_ex, nextK_ite, decide_eq_true_eq, if_true, if_false, ite_true, ite_false, Bool.true_eq_false, Bool.false_eq_true, Bool.not_true, Bool.not_false, reduceIte, Bool.not_eq_true', decide_eq_false_iff_not, eb]
    · rw [h] at eb; simp -implicitDefEqProofs (disch := first | omega | (simp only [List.length_map, List.length_append, List.length_cons, List.length_nil, List.length_take, List.length_drop, repS_len, rngL_len, List.length_range, List.length_reverse]; done) | (simp only [List.length_map, List.length_append, List.length_cons, List.length_nil, List.length_take, List.length_drop, repS_len, rngL_len, List.length_range, List.length_reverse]; omega)) only [mVar_ev, mVarR_ev, getV_val, getR_val, getR_own, mC_ev, mOp_ev, mOpL_ev, mT_ev, asB_bl, mAnd_ev, mOr_ev, mNot_ev, mAndV_ev, mOrV_ev, mNotV_ev, mIf_ev, mNil_ev, mCons_ev, mTup_ev, mLst_ev, mCall_ev, mPn_ev, mPs_ev, asI_int, mSl_ev, mSlL_ev, asL_lst, asL_scr, asTp_tup, asSt_str, R_ite, mWalk_ev, mLe_ev, mNeg_ev, mSeq_ev, mSkip_ev, bind_nx, bind_rt, bind_rtL, bind_bk, bind_ct, bind_ex, bind_ite, lift_ok, lift_exc, lift_ite, mAsg_ev, mAsgL_ev, mDrop_ev, mRet_ev, mRetL_ev, mRetN_ev, mRetOwn_ev, getO_own, mIfS_ev, mSet1_ev, onO_own, onO_val, mAppend_ev, putO_own, mAsgG_ev, optSO_some, gSet_ev, gsNil_ev, gsCons_ev, obind_some, gTupM_1, gTupM_2, gTupM_3, gTupM_4, gTupM_5, gTupM_6, mFor_ev, retD_nx, retD_rt, retD_rtL, retD_ex, retD_ite, retLs_rtL, retLs_ex, retLs_ite, nth_zero, nth_succ, set_zero, set_succ, add_int, add_str, add_lst, lcat_lst, sub_int', neg_int', lt_int', le_int', gt_int', ge_int', mod_int', fdiv_int, mul_int', mul_str', isN_non, isN_int, notN_non, notN_int, eq_int', ne_int', eq_str', ne_str', eq_bl', ne_bl', len_str', len_lst, len_tup, len_scr, max_int, min_int, sl_str', sl_lst, sl_scr, lsl_lst, lsl_scr, ix_str', ix_lst, ix_tup', ix_scr, range1_ok, range2_ok, range3_ok, mMeth_ev, onStr_str, mComp_ev, mCh_ev, wipeE_nil, wipeE_cons, mYes_ev, int_int, int_bl, asW_lst, asW_tup, asW_scr, asW_str, lt_str', le_str', gt_str', ge_str', mRaise_ev, sum_ints, all_bls, any_bls, list_lst, list_tup, list_scr, sorted_ints', g_find_ev, g_find3_ev, g_find4_ev, g_rfind_ev, g_rfind4_ev, g_count_ev, g_count3_ev, g_count4_ev, g_startswith_ev, g_endswith_ev, Int.reduceToNat, List.getD_cons_zero, List.getD_cons_succ, List.length_map, List.length_reverse, Int.zero_mul, Int.mul_zero, Int.add_zero, Int.mul_one, nc0, nc1, nc2, nc3, nc4, nc5, nc6, nc7, nc8, nc9, nc10, nc11, nc12, nc13, List.cons_append, List.nil_append, decide_true, decide_false, not_false_eq_true, not_true_eq_false, mCallR_ev, retLE_rtL, retDE_rt, flatR_bl, flatR_int, flatR_str, flatR_non, flatR_exc, getOwn_own, mMut0_ev, mSetIx_ev, putIx_ok, rev_lst, lrep_ev, if_small, if_small', rngL_len, endS_nx, endS_rt, in_sign, notIn_sign, isN_str, notN_str, isN_tup, notN_tup, isi_int_int, isi_int_bool, isi_bl_bool, isi_bl_int, isi_str_str, isi_tup_tup, isi_lst_lst, isi_non_int, isi_non_tup, _root_.FL.R.ok_bind, _root_.FL.R.exc_bind, _root_.FL.R.stuck_bind, _root_.FL.R.pure_eq, List.append_nil, List.length_cons, List.length_nil, Nat.zero_add, Nat.reduceAdd, Nat.reduceLeDiff, Nat.reduceLT, and_self, and_true, true_and, nextK_nx, nextK_ct, nextK_bk, nextK_rt, nextK_rtL, nextK_ex, nextK_ite, decide_eq_true_eq, if_true, if_false, ite_true, ite_false, Bool.true_eq_false, Bool.false_eq_true, Bool.not_true, Bool.not_false, reduceIte, Bool.not_eq_true', decide_eq_false_iff_not, eb]) (fun _ _ _ => rfl) (t.length - p) (p + 1) .no
  have rr : ((t.length : Int) + 1 - ((p : Int) + 1)).toNat = t.length - p := by omega
  have r2 : ((p : Int) + 1) = ((p + 1 : Nat) : Int) := by omega
  simp -implicitDefEqProofs (disch := first | omega | (simp only [List.length_map, List.length_append, List.length_cons, List.length_nil, List.length_take, List.length_drop, repS_len, rngL_len, List.length_range, List.length_reverse]; done) | (simp only [List.length_map, List.length_append, List.length_cons, List.length_nil, List.length_take, List.length_drop, repS_len, rngL_len, List.length_range, List.length_reverse]; omega)) only [mVar_ev, mVarR_ev, getV_val, getR_val, getR_own, mC_ev, mOp_ev, mOpL_ev, mT_ev, asB_bl, mAnd_ev, mOr_ev, mNot_ev, mAndV_ev, mOrV_ev, mNotV_ev, mIf_ev, mNil_ev, mCons_ev, mTup_ev, mLst_ev, mCall_ev, mPn_ev, mPs_ev, asI_int, mSl_ev, mSlL_ev, asL_lst, asL_scr, asTp_tup, asSt_str, R_ite, mWalk_ev, mLe_ev, mNeg_ev, mSeq_ev, mSkip_ev, bind_rt, bind_rtL, bind_bk, bind_ct, bind_ex, bind_ite, lift_ok, lift_exc, lift_ite, mAsg_ev, mAsgL_ev, mDrop_ev, mRet_ev, mRetL_ev, mRetN_ev, mRetOwn_ev, getO_own, mIfS_ev, mSet1_ev, onO_own, onO_val, mAppend_ev, putO_own, mAsgG_ev, optSO_some, gSet_ev, gsNil_ev, gsCons_ev, obind_some, gTupM_1, gTupM_2, gTupM_3, gTupM_4, gTupM_5, gTupM_6, mFor_ev, retD_nx, retD_rt, retD_rtL, retD_ex, retD_ite, retLs_rtL, retLs_ex, retLs_ite, nth_zero, nth_succ, set_zero, set_succ, add_int, add_str, add_lst, lcat_lst, sub_int', neg_int', lt_int', le_int', gt_int', ge_int', mod_int', fdiv_int, mul_int', mul_str', isN_non, isN_int, notN_non, notN_int, eq_int', ne_int', eq_str', ne_str', eq_bl', ne_bl', len_str', len_lst, len_tup, len_scr, max_int, min_int, sl_str', sl_lst, sl_scr, lsl_lst, lsl_scr, ix_str', ix_lst, ix_tup', ix_scr, range1_ok, range2_ok, range3_ok, mMeth_ev, onStr_str, mComp_ev, mCh_ev, wipeE_nil, wipeE_cons, mYes_ev, int_int, int_bl, asW_lst, asW_tup, asW_scr, asW_str, lt_str', le_str', gt_str', ge_str', mRaise_ev, sum_ints, all_bls, any_bls, list_lst, list_tup, list_scr, sorted_ints', g_find_ev, g_find3_ev, g_find4_ev, g_rfind_ev, g_rfind4_ev, g_count_ev, g_count3_ev, g_count4_ev, g_startswith_ev, g_endswith_ev, Int.reduceToNat, List.getD_cons_zero, List.getD_cons_succ, List.length_map, List.length_reverse, Int.zero_mul, Int.mul_zero, Int.add_zero, Int.mul_one, nc0, nc1, nc2, nc3, nc4, nc5, nc6, nc7, nc8, nc9, nc10, nc11, nc12, nc13, List.cons_append, List.nil_append, decide_true, decide_false, not_false_eq_true, not_true_eq_false, mCallR_ev, retLE_rtL, retDE_rt, flatR_bl, flatR_int, flatR_str, flatR_non, flatR_exc, getOwn_own, mMut0_ev, mSetIx_ev, putIx_ok, rev_lst, lrep_ev, if_small, if_small', rngL_len, endS_nx, endS_rt, in_sign, notIn_sign, isN_str, notN_str, isN_tup, notN_tup, isi_int_int, isi_int_bool, isi_bl_bool, isi_bl_int, isi_str_str, isi_tup_tup, isi_lst_lst, isi_non_int, isi_non_tup, _root_.FL.R.ok_bind, _root_.FL.R.exc_bind, _root_.FL.R.stuck_bind, _root_.FL.R.pure_eq, List.append_nil, List.length_cons, List.length_nil, Nat.zero_add, Nat.reduceAdd, Nat.reduceLeDiff, Nat.reduceLT, and_self, and_true, true_and, nextK_nx, nextK_ct, nextK_bk, nextK_rt, nextK_rtL, nextK_ex, nextK_ite, decide_eq_true_eq, if_true, if_false, ite_true, ite_false, Bool.true_eq_false, Bool.false_eq_true, Bool.not_true, Bool.not_false, reduceIte, Bool.not_eq_true', decide_eq_false_iff_not, rr]
  rw [r2, e]
  exact endBind _ _
theorem e_step_h (o : D) : p_Left__step [o, .str t, .int (p : Int)] = .ok (oD (stpM .h t p)) := by
  rw [u_Left__step]; unfold b_Left__step stpM
  have e1 := e_colN t p (by omega) hp
  have e2 := (bgn_spec t p).1
  by_cases q : p = bgn t p
  · have q' : ((p - bgn t p : Nat) : Int) = 0 := by omega
    simp -implicitDefEqProofs (disch := first | omega | (simp only [List.length_map, List.length_append, List.length_cons, List.length_nil, List.length_take, List.length_drop, repS_len, rngL_len, List.length_range, List.length_reverse]; done) | (simp only [List.length_map, List.length_append, List.length_cons, List.length_nil, List.length_take, List.length_drop, repS_len, rngL_len, List.length_range, List.length_reverse]; omega)) only [mVar_ev, mVarR_ev, getV_val, getR_val, getR_own, mC_ev, mOp_ev, mOpL_ev, mT_ev, asB_bl, mAnd_ev, mOr_ev, mNot_ev, mAndV_ev, mOrV_ev, mNotV_ev, mIf_ev, mNil_ev, mCons_ev, mTup_ev, mLst_ev, mCall_ev, mPn_ev, mPs_ev, asI_int, mSl_ev, mSlL_ev, asL_lst, asL_scr, asTp_tup, asSt_str, R_ite, mWalk_ev, mLe_ev, mNeg_ev, mSeq_ev, mSkip_ev, bind_nx, bind_rt, bind_rtL, bind_bk, bind_ct, bind_ex, bind_ite, lift_ok, lift_exc, lift_ite, mAsg_ev, mAsgL_ev, mDrop_ev, mRet_ev, mRetL_ev, mRetN_ev, mRetOwn_ev, getO_own, mIfS_ev, mSet1_ev, onO_own, onO_val, mAppend_ev, putO_own, mAsgG_ev, optSO_some, gSet_ev, gsNil_ev, gsCons_ev, obind_some, gTupM_1, gTupM_2, gTupM_3, gTupM_4, gTupM_5, gTupM_6, mFor_ev, retD_nx, retD_rt, retD_rtL, retD_ex, retD_ite, retLs_rtL, retLs_ex, retLs_ite, nth_zero, nth_succ, set_zero, set_succ, add_int, add_str, add_lst, lcat_lst, sub_int', neg_int', lt_int', le_int', gt_int', ge_int', mod_int', fdiv_int, mul_int', mul_str', isN_non, isN_int, notN_non, notN_int, eq_int', ne_int', eq_str', ne_str', eq_bl', ne_bl', len_str', len_lst, len_tup, len_scr, max_int, min_int, sl_str', sl_lst, sl_scr, lsl_lst, lsl_scr, ix_str', ix_lst, ix_tup', ix_scr, range1_ok, range2_ok, range3_ok, mMeth_ev, onStr_str, mComp_ev, mCh_ev, wipeE_nil, wipeE_cons, mYes_ev, int_int, int_bl, asW_lst, asW_tup, asW_scr, asW_str, lt_str', le_str', gt_str', ge_str', mRaise_ev, sum_ints, all_bls, any_bls, list_lst, list_tup, list_scr, sorted_ints', g_find_ev, g_find3_ev, g_find4_ev, g_rfind_ev, g_rfind4_ev, g_count_ev, g_count3_ev, g_count4_ev, g_startswith_ev, g_endswith_ev, Int.reduceToNat, List.getD_cons_zero, List.getD_cons_succ, List.length_map, List.length_reverse, Int.zero_mul, Int.mul_zero, Int.add_zero, Int.mul_one, nc0, nc1, nc2, nc3, nc4, nc5, nc6, nc7, nc8, nc9, nc10, nc11, nc12, nc13, List.cons_append, List.nil_append, decide_true, decide_false, not_false_eq_true, not_true_eq_false, mCallR_ev, retLE_rtL, retDE_rt, flatR_bl, flatR_int, flatR_str, flatR_non, flatR_exc, getOwn_own, mMut0_ev, mSetIx_ev, putIx_ok, rev_lst, lrep_ev, if_small, if_small', rngL_len, endS_nx, endS_rt, in_sign, notIn_sign, isN_str, notN_str, isN_tup, notN_tup, isi_int_int, isi_int_bool, isi_bl_bool, isi_bl_int, isi_str_str, isi_tup_tup, isi_lst_lst, isi_non_int, isi_non_tup, _root_.FL.R.ok_bind, _root_.FL.R.exc_bind, _root_.FL.R.stuck_bind, _root_.FL.R.pure_eq, List.append_nil, List.length_cons, List.length_nil, Nat.zero_add, Nat.reduceAdd, Nat.reduceLeDiff, Nat.reduceLT, and_self, and_true, true_and, nextK_nx, nextK_ct, nextK_bk, nextK_rt, nextK_rtL, nextK_ex, nextK_ite, decide_eq_true_eq, if_true, if_false, ite_true, ite_false, Bool.true_eq_false, Bool.false_eq_true, Bool.not_true, Bool.not_false, reduceIte, Bool.not_eq_true', decide_eq_false_iff_not, e1, q', if_pos q]; rfl
  · have q' : ¬ ((p - bgn t p : Nat) : Int) = 0 := by omega
    simp -implicitDefEqProofs (disch := first | omega | (simp only [List.length_map, List.length_append, List.length_cons, List.length_nil, List.length_take, List.length_drop, repS_len, rngL_len, List.length_range, List.length_reverse]; done) | (simp only [List.length_map, List.length_append, List.length_cons, List.length_nil, List.length_take, List.length_drop, repS_len, rngL_len, List.length_range, List.length_reverse]; omega)) only [mVar_ev, mVarR_ev, getV_val, getR_val, getR_own, mC_ev, mOp_ev, mOpL_ev, mT_ev, asB_bl, mAnd_ev, mOr_ev, mNot_ev, mAndV_ev, mOrV_ev, mNotV_ev, mIf_ev, mNil_ev, mCons_ev, mTup_ev, mLst_ev, mCall_ev, mPn_ev, mPs_ev, asI_int, mSl_ev, mSlL_ev, asL_lst, asL_scr, asTp_tup, asSt_str, R_ite, mWalk_ev, mLe_ev, mNeg_ev, mSeq_ev, mSkip_ev, bind_nx, bind_rt, bind_rtL, bind_bk, bind_ct, bind_ex, bind_ite, lift_ok, lift_exc, lift_ite, mAsg_ev, mAsgL_ev, mDrop_ev, mRet_ev, mRetL_ev, mRetN_ev, mRetOwn_ev, getO_own, mIfS_ev, mSet1_ev, onO_own, onO_val, mAppend_ev, putO_own, mAsgG_ev, optSO_some, gSet_ev, gsNil_ev, gsCons_ev, obind_some, gTupM_1, gTupM_2, gTupM_3, gTupM_4, gTupM_5, gTupM_6, mFor_ev, retD_nx, retD_rt, retD_rtL, retD_ex, retD_ite, retLs_rtL, retLs_ex, retLs_ite, nth_zero, nth_succ, set_zero, set_succ, add_int, add_str, add_lst, lcat_lst, sub_int', neg_int', lt_int', le_int', gt_int', ge_int', mod_int', fdiv_int, mul_int', mul_str', isN_non, isN_int, notN_non, notN_int, eq_int', ne_int', eq_str', ne_str', eq_bl', ne_bl', len_str', len_lst, len_tup, len_scr, max_int, min_int, sl_str', sl_lst, sl_scr, lsl_lst, lsl_scr, ix_str', ix_lst, ix_tup', ix_scr, range1_ok, range2_ok, range3_ok, mMeth_ev, onStr_str, mComp_ev, mCh_ev, wipeE_nil, wipeE_cons, mYes_ev, int_int, int_bl, asW_lst, asW_tup, asW_scr, asW_str, lt_str', le_str', gt_str', ge_str', mRaise_ev, sum_ints, all_bls, any_bls, list_lst, list_tup, list_scr, sorted_ints', g_find_ev, g_find3_ev, g_find4_ev, g_rfind_ev, g_rfind4_ev, g_count_ev, g_count3_ev, g_count4_ev, g_startswith_ev, g_endswith_ev, Int.reduceToNat, List.getD_cons_zero, List.getD_cons_succ, List.length_map, List.length_reverse, Int.zero_mul, Int.mul_zero, Int.add_zero, Int.mul_one, nc0, nc1, nc2, nc3, nc4, nc5, nc6, nc7, nc8, nc9, nc10, nc11, nc12, nc13, List.cons_append, List.nil_append, decide_true, decide_false, not_false_eq_true, not_true_eq_false, mCallR_ev, retLE_rtL, retDE_rt, flatR_bl, flatR_int, flatR_str, flatR_non, flatR_exc, getOwn_own, mMut0_ev, mSetIx_ev, putIx_ok, rev_lst, lrep_ev, if_small, if_small', rngL_len, endS_nx, endS_rt, in_sign, notIn_sign, isN_str, notN_str, isN_tup, notN_tup, isi_int_int, isi_int_bool, isi_bl_bool, isi_bl_int, isi_str_str, isi_tup_tup, isi_lst_lst, isi_non_int, isi_non_tup, _root_.FL.R.ok_bind, _root_.FL.R.exc_bind, _root_.FL.R.stuck_bind, _root_.FL.R.pure_eq, List.append_nil, List.length_cons, List.length_nil, Nat.zero_add, Nat.reduceAdd, Nat.reduceLeDiff, Nat.reduceLT, and_self, and_true, true_and, nextK_nx, nextK_ct, nextK_bk, nextK_rt, nextK_rtL, nextK_ex, nextK_ite, decide_eq_true_eq, if_true, if_false, ite_true, ite_false, Bool.true_eq_false, Bool.false_eq_true, Bool.not_true, Bool.not_false, reduceIte, Bool.not_eq_true', decide_eq_false_iff_not, e1, q', if_neg q]
    show R.ok (D.int ((p : Int) - 1)) = .ok (.int ((p - 1 : Nat) : Int))
    congr 2; omega
theorem e_step_l (o : D) : p_Right__step [o, .str t, .int (p : Int)] = .ok (oD (stpM .l t p)) := by
  rw [u_Right__step]; unfold b_Right__step stpM
  have e1 := e_rowN t p (by omega) hp
  have e2 := e_enn t p (by omega) hp
  by_cases q : p = enn t p
  · have q' : (p : Int) = (enn t p : Nat) := by omega
    simp -implicitDefEqProofs (disch := first | omega | (simp only [List.length_map, List.length_append, List.length_cons, List.length_nil, List.length_take, List.length_drop, repS_len, rngL_len, List.length_range, List.length_reverse]; done) | (simp only [List.length_map, List.length_append, List.length_cons, List.length_nil, List.length_take, List.length_drop, repS_len, rngL_len, List.length_range, List.length_reverse]; omega)) only [mVar_ev, mVarR_ev, getV_val, getR_val, getR_own, mC_ev, mOp_ev, mOpL_ev, mT_ev, asB_bl, mAnd_ev, mOr_ev, mNot_ev, mAndV_ev, mOrV_ev, mNotV_ev, mIf_ev, mNil_ev, mCons_ev, mTup_ev, mLst_ev, mCall_ev, mPn_ev, mPs_ev, asI_int, mSl_ev, mSlL_ev, asL_lst, asL_scr, asTp_tup, asSt_str, R_ite, mWalk_ev, mLe_ev, mNeg_ev, mSeq_ev, mSkip_ev, bind_nx, bind_rt, bind_rtL, bind_bk, bind_ct, bind_ex, bind_ite, lift_ok, lift_exc, lift_ite, mAsg_ev, mAsgL_ev, mDrop_ev, mRet_ev, mRetL_ev, mRetN_ev, mRetOwn_ev, getO_own, mIfS_ev, mSet1_ev, onO_own, onO_val, mAppend_ev, putO_own, mAsgG_ev, optSO_some, gSet_ev, gsNil_ev, gsCons_ev, obind_some, gTupM_1, gTupM_2, gTupM_3, gTupM_4, gTupM_5, gTupM_6, mFor_ev, retD_nx, retD_rt, retD_rtL, retD_ex, retD_ite, retLs_rtL, retLs_ex, retLs_ite, nth_zero, nth_succ, set_zero, set_succ, add_int, add_str, add_lst, lcat_lst, sub_int', neg_int', lt_int', le_int', gt_int', ge_int', mod_int', fdiv_int, mul_int', mul_str', isN_non, isN_int, notN_non, notN_int, eq_int', ne_int', eq_str', ne_str', eq_bl', ne_bl', len_str', len_lst, len_tup, len_scr, max_int, min_int, sl_str', sl_lst, sl_scr, lsl_lst, lsl_scr, ix_str', ix_lst, ix_tup', ix_scr, range1_ok, range2_ok, range3_ok, mMeth_ev, onStr_str, mComp_ev, mCh_ev, wipeE_nil, wipeE_cons, mYes_ev, int_int, int_bl, asW_lst, asW_tup, asW_scr, asW_str, lt_str', le_str', gt_str', ge_str', mRaise_ev, sum_ints, all_bls, any_bls, list_lst, list_tup, list_scr, sorted_ints', g_find_ev, g_find3_ev, g_find4_ev, g_rfind_ev, g_rfind4_ev, g_count_ev, g_count3_ev, g_count4_ev, g_startswith_ev, g_endswith_ev, Int.reduceToNat, List.getD_cons_zero, List.getD_cons_succ, List.length_map, List.length_reverse, Int.zero_mul, Int.mul_zero, Int.add_zero, Int.mul_one, nc0, nc1, nc2, nc3, nc4, nc5, nc6, nc7, nc8, nc9, nc10, nc11, nc12, nc13, List.cons_append, List.nil_append, decide_true, decide_false, not_false_eq_true, not_true_eq_false, mCallR_ev, retLE_rtL, retDE_rt, flatR_bl, flatR_int, flatR_str, flatR_non, flatR_exc, getOwn_own, mMut0_ev, mSetIx_ev, putIx_ok, rev_lst, lrep_ev, if_small, if_small', rngL_len, endS_nx, endS_rt, in_sign, notIn_sign, isN_str, notN_str, isN_tup, notN_tup, isi_int_int, isi_int_bool, isi_bl_bool, isi_bl_int, isi_str_str, isi_tup_tup, isi_lst_lst, isi_non_int, isi_non_tup, _root_.FL.R.ok_bind, _root_.FL.R.exc_bind, _root_.FL.R.stuck_bind, _root_.FL.R.pure_eq, List.append_nil, List.length_cons, List.length_nil, Nat.zero_add, Nat.reduceAdd, Nat.reduceLeDiff, Nat.reduceLT, and_self, and_true, true_and, nextK_nx, nextK_ct, nextK_bk, nextK_rt, nextK_rtL, nextK_ex, nextK_ite, decide_eq_true_eq, if_true, if_false, ite_true, ite_false, Bool.true_eq_false, Bool.false_eq_true, Bool.not_true, Bool.not_false, reduceIte, Bool.not_eq_true', decide_eq_false_iff_not, e1, e2, eq_true q', if_pos q]; rfl
  · have q' : ¬ (p : Int) = (enn t p : Nat) := by omega
    simp -implicitDefEqProofs (disch := first | omega | (simp only [List.length_map, List.length_append, List.length_cons, List.length_nil, List.length_take, List.length_drop, repS_len, rngL_len, List.length_range, List.length_reverse]; done) | (simp only [List.length_map, List.length_append, List.length_cons, List.length_nil, List.length_take, List.length_drop, repS_len, rngL_len, List.length_range, List.length_reverse]; omega)) only [mVar_ev, mVarR_ev, getV_val, getR_val, getR_own, mC_ev, mOp_ev, mOpL_ev, mT_ev, asB_bl, mAnd_ev, mOr_ev, mNot_ev, mAndV_ev, mOrV_ev, mNotV_ev, mIf_ev, mNil_ev, mCons_ev, mTup_ev, mLst_ev, mCall_ev, mPn_ev, mPs_ev, asI_int, mSl_ev, mSlL_ev, asL_lst, asL_scr, asTp_tup, asSt_str, R_ite, mWalk_ev, mLe_ev, mNeg_ev, mSeq_ev, mSkip_ev, bind_nx, bind_rt, bind_rtL, bind_bk, bind_ct, bind_ex, bind_ite, lift_ok, lift_exc, lift_ite, mAsg_ev, mAsgL_ev, mDrop_ev, mRet_ev, mRetL_ev, mRetN_ev, mRetOwn_ev, getO_own, mIfS_ev, mSet1_ev, onO_own, onO_val, mAppend_ev, putO_own, mAsgG_ev, optSO_some, gSet_ev, gsNil_ev, gsCons_ev, obind_some, gTupM_1, gTupM_2, gTupM_3, gTupM_4, gTupM_5, gTupM_6, mFor_ev, retD_nx, retD_rt, retD_rtL, retD_ex, retD_ite, retLs_rtL, retLs_ex, retLs_ite, nth_zero, nth_succ, set_zero, set_succ, add_int, add_str, add_lst, lcat_lst, sub_int', neg_int', lt_int', le_int', gt_int', ge_int', mod_int', fdiv_int, mul_int', mul_str', isN_non, isN_int, notN_non, notN_int, eq_int', ne_int', eq_str', ne_str', eq_bl', ne_bl', len_str', len_lst, len_tup, len_scr, max_int, min_int, sl_str', sl_lst, sl_scr, lsl_lst, lsl_scr, ix_str', ix_lst, ix_tup', ix_scr, range1_ok, range2_ok, range3_ok, mMeth_ev, onStr_str, mComp_ev, mCh_ev, wipeE_nil, wipeE_cons, mYes_ev, int_int, int_bl, asW_lst, asW_tup, asW_scr, asW_str, lt_str', le_str', gt_str', ge_str', mRaise_ev, sum_ints, all_bls, any_bls, list_lst, list_tup, list_scr, sorted_ints', g_find_ev, g_find3_ev, g_find4_ev, g_rfind_ev, g_rfind4_ev, g_count_ev, g_count3_ev, g_count4_ev, g_startswith_ev, g_endswith_ev, Int.reduceToNat, List.getD_cons_zero, List.getD_cons_succ, List.length_map, List.length_reverse, Int.zero_mul, Int.mul_zero, Int.add_zero, Int.mul_one, nc0, nc1, nc2, nc3, nc4, nc5, nc6, nc7, nc8, nc9, nc10, nc11, nc12, nc13, List.cons_append, List.nil_append, decide_true, decide_false, not_false_eq_true, not_true_eq_false, mCallR_ev, retLE_rtL, retDE_rt, flatR_bl, flatR_int, flatR_str, flatR_non, flatR_exc, getOwn_own, mMut0_ev, mSetIx_ev, putIx_ok, rev_lst, lrep_ev, if_small, if_small', rngL_len, endS_nx, endS_rt, in_sign, notIn_sign, isN_str, notN_str, isN_tup, notN_tup, isi_int_int, isi_int_bool, isi_bl_bool, isi_bl_int, isi_str_str, isi_tup_tup, isi_lst_lst, isi_non_int, isi_non_tup, _root_.FL.R.ok_bind, _root_.FL.R.exc_bind, _root_.FL.R.stuck_bind, _root_.FL.R.pure_eq, List.append_nil, List.length_cons, List.length_nil, Nat.zero_add, Nat.reduceAdd, Nat.reduceLeDiff, Nat.reduceLT, and_self, and_true, true_and, nextK_nx, nextK_ct, nextK_bk, nextK_rt, nextK_rtL, nextK_ex, nextK_ite, decide_eq_true_eq, if_true, if_false, ite_true, ite_false, Bool.true_eq_false, Bool.false_eq_true, Bool.not_true, Bool.not_false, reduceIte, Bool.not_eq_true', decide_eq_false_iff_not, e1, e2, q', if_neg q]; rfl
theorem e_step_b (o : D) : p_RowBegin__step [o, .str t, .int (p : Int)] = .ok (oD (stpM .b t p)) := by
  rw [u_RowBegin__step]; unfold b_RowBegin__step stpM
  simp -implicitDefEqProofs (disch := first | omega | (simp only [List.length_map, List.length_append, List.length_cons, List.length_nil, List.length_take, List.length_drop, repS_len, rngL_len, List.length_range, List.length_reverse]; done) | (simp only [List.length_map, List.length_append, List.length_cons, List.length_nil, List.length_take, List.length_drop, repS_len, rngL_len, List.length_range, List.length_reverse]; omega)) only [mVar_ev, mVarR_ev, getV_val, getR_val, getR_own, mC_ev, mOp_ev, mOpL_ev, mT_ev, asB_bl, mAnd_ev, mOr_ev, mNot_ev, mAndV_ev, mOrV_ev, mNotV_ev, mIf_ev, mNil_ev, mCons_ev, mTup_ev, mLst_ev, mCall_ev, mPn_ev, mPs_ev, asI_int, mSl_ev, mSlL_ev, asL_lst, asL_scr, asTp_tup, asSt_str, R_ite, mWalk_ev, mLe_ev, mNeg_ev, mSeq_ev, mSkip_ev, bind_nx, bind_rt, bind_rtL, bind_bk, bind_ct, bind_ex, bind_ite, lift_ok, lift_exc, lift_ite, mAsg_ev, mAsgL_ev, mDrop_ev, mRet_ev, mRetL_ev, mRetN_ev, mRetOwn_ev, getO_own, mIfS_ev, mSet1_ev, onO_own, onO_val, mAppend_ev, putO_own, mAsgG_ev, optSO_some, gSet_ev, gsNil_ev, gsCons_ev, obind_some, gTupM_1, gTupM_2, gTupM_3, gTupM_4, gTupM_5, gTupM_6, mFor_ev, retD_nx, retD_rt, retD_rtL, retD_ex, retD_ite, retLs_rtL, retLs_ex, retLs_ite, nth_zero, nth_succ, set_zero, set_succ, add_int, add_str, add_lst, lcat_lst, sub_int', neg_int', lt_int', le_int', gt_int', ge_int', mod_int', fdiv_int, mul_int', mul_str', isN_non, isN_int, notN_non, notN_int, eq_int', ne_int', eq_str', ne_str', eq_bl', ne_bl', len_str', len_lst, len_tup, len_scr, max_int, min_int, sl_str', sl_lst, sl_scr, lsl_lst, lsl_scr, ix_str', ix_lst, ix_tup', ix_scr, range1_ok, range2_ok, range3_ok, mMeth_ev, onStr_str, mComp_ev, mCh_ev, wipeE_nil, wipeE_cons, mYes_ev, int_int, int_bl, asW_lst, asW_tup, asW_scr, asW_str, lt_str', le_str', gt_str', ge_str', mRaise_ev, sum_ints, all_bls, any_bls, list_lst, list_tup, list_scr, sorted_ints', g_find_ev, g_find3_ev, g_find4_ev, g_rfind_ev, g_rfind4_ev, g_count_ev, g_count3_ev, g_count4_ev, g_startswith_ev, g_endswith_ev, Int.reduceToNat, List.getD_cons_zero, List.getD_cons_succ, List.length_map, List.length_reverse, Int.zero_mul, Int.mul_zero, Int.add_zero, Int.mul_one, nc0, nc1, nc2, nc3, nc4, nc5, nc6, nc7, nc8, nc9, nc10, nc11, nc12, nc13, List.cons_append, List.nil_append, decide_true, decide_false, not_false_eq_true, not_true_eq_false, mCallR_ev, retLE_rtL, retDE_rt, flatR_bl, flatR_int, flatR_str, flatR_non, flatR_exc, getOwn_own, mMut0_ev, mSetIx_ev, putIx_ok, rev_lst, lrep_ev, if_small, if_small', rngL_len, endS_nx, endS_rt, in_sign, notIn_sign, isN_str, notN_str, isN_tup, notN_tup, isi_int_int, isi_int_bool, isi_bl_bool, isi_bl_int, isi_str_str, isi_tup_tup, isi_lst_lst, isi_non_int, isi_non_tup, _root_.FL.R.ok_bind, _root_.FL.R.exc_bind, _root_.FL.R.stuck_bind, _root_.FL.R.pure_eq, List.append_nil, List.length_cons, List.length_nil, Nat.zero_add, Nat.reduceAdd, Nat.reduceLeDiff, Nat.reduceLT, and_self, and_true, true_and, nextK_nx, nextK_ct, nextK_bk, nextK_rt, nextK_rtL, nextK_ex, nextK_ite, decide_eq_true_eq, if_true, if_false, ite_true, ite_false, Bool.true_eq_false, Bool.false_eq_true, Bool.not_true, Bool.not_false, reduceIte, Bool.not_eq_true', decide_eq_false_iff_not, e_rowN t p (by omega) hp, e_bgn t p (by omega) hp]; rfl
theorem e_step_e (o : D) : p_RowEnd__step [o, .str t, .int (p : Int)] = .ok (oD (stpM .e t p)) := by
  rw [u_RowEnd__step]; unfold b_RowEnd__step stpM
  simp -implicitDefEqProofs (disch := first | omega | (simp only [List.length_map, List.length_append, List.length_cons, List.length_nil, List.length_take, List.length_drop, repS_len, rngL_len, List.length_range, List.length_reverse]; done) | (simp only [List.length_map, List.length_append, List.length_cons, List.length_nil, List.length_take, List.length_drop, repS_len, rngL_len, List.length_range, List.length_reverse]; omega)) only [mVar_ev, mVarR_ev, getV_val, getR_val, getR_own, mC_ev, mOp_ev, mOpL_ev, mT_ev, asB_bl, mAnd_ev, mOr_ev, mNot_ev, mAndV_ev, mOrV_ev, mNotV_ev, mIf_ev, mNil_ev, mCons_ev, mTup_ev, mLst_ev, mCall_ev, mPn_ev, mPs_ev, asI_int, mSl_ev, mSlL_ev, asL_lst, asL_scr, asTp_tup, asSt_str, R_ite, mWalk_ev, mLe_ev, mNeg_ev, mSeq_ev, mSkip_ev, bind_nx, bind_rt, bind_rtL, bind_bk, bind_ct, bind_ex, bind_ite, lift_ok, lift_exc, lift_ite, mAsg_ev, mAsgL_ev, mDrop_ev, mRet_ev, mRetL_ev, mRetN_ev, mRetOwn_ev, getO_own, mIfS_ev, mSet1_ev, onO_own, onO_val, mAppend_ev, putO_own, mAsgG_ev, optSO_some, gSet_ev, gsNil_ev, gsCons_ev, obind_some, gTupM_1, gTupM_2, gTupM_3, gTupM_4, gTupM_5, gTupM_6, mFor_ev, retD_nx, retD_rt, retD_rtL, retD_ex, retD_ite, retLs_rtL, retLs_ex, retLs_ite, nth_zero, nth_succ, set_zero, set_succ, add_int, add_str, add_lst, lcat_lst, sub_int', neg_int', lt_int', le_int', gt_int', ge_int', mod_int', fdiv_int, mul_int', mul_str', isN_non, isN_int, notN_non, notN_int, eq_int', ne_int', eq_str', ne_str', eq_bl', ne_bl', len_str', len_lst, len_tup, len_scr, max_int, min_int, sl_str', sl_lst, sl_scr, lsl_lst, lsl_scr, ix_str', ix_lst, ix_tup', ix_scr, range1_ok, range2_ok, range3_ok, mMeth_ev, onStr_str, mComp_ev, mCh_ev, wipeE_nil, wipeE_cons, mYes_ev, int_int, int_bl, asW_lst, asW_tup, asW_scr, asW_str, lt_str', le_str', gt_str', ge_str', mRaise_ev, sum_ints, all_bls, any_bls, list_lst, list_tup, list_scr, sorted_ints', g_find_ev, g_find3_ev, g_find4_ev, g_rfind_ev, g_rfind4_ev, g_count_ev, g_count3_ev, g_count4_ev, g_startswith_ev, g_endswith_ev, Int.reduceToNat, List.getD_cons_zero, List.getD_cons_succ, List.length_map, List.length_reverse, Int.zero_mul, Int.mul_zero, Int.add_zero, Int.mul_one, nc0, nc1, nc2, nc3, nc4, nc5, nc6, nc7, nc8, nc9, nc10, nc11, nc12, nc13, List.cons_append, List.nil_append, decide_true, decide_false, not_false_eq_true, not_true_eq_false, mCallR_ev, retLE_rtL, retDE_rt, flatR_bl, flatR_int, flatR_str, flatR_non, flatR_exc, getOwn_own, mMut0_ev, mSetIx_ev, putIx_ok, rev_lst, lrep_ev, if_small, if_small', rngL_len, endS_nx, endS_rt, in_sign, notIn_sign, isN_str, notN_str, isN_tup, notN_tup, isi_int_int, isi_int_bool, isi_bl_bool, isi_bl_int, isi_str_str, isi_tup_tup, isi_lst_lst, isi_non_int, isi_non_tup, _root_.FL.R.ok_bind, _root_.FL.R.exc_bind, _root_.FL.R.stuck_bind, _root_.FL.R.pure_eq, List.append_nil, List.length_cons, List.length_nil, Nat.zero_add, Nat.reduceAdd, Nat.reduceLeDiff, Nat.reduceLT, and_self, and_true, true_and, nextK_nx, nextK_ct, nextK_bk, nextK_rt, nextK_rtL, nextK_ex, nextK_ite, decide_eq_true_eq, if_true, if_false, ite_true, ite_false, Bool.true_eq_false, Bool.false_eq_true, Bool.not_true, Bool.not_false, reduceIte, Bool.not_eq_true', decide_eq_false_iff_not, e_rowN t p (by omega) hp, e_enn t p (by omega) hp]; rfl
omit hp in
theorem e_placeN (q c : Nat) (hq : q ≤ t.length) : p_place_of [.str t, .int (((t.take q).count 10 : Nat) : Int), .int (c : Int)] = .ok (.int ((min (bgn t q + c) (enn t q) : Nat) : Int)) := by
  rw [u_place_of]; unfold b_place_of
  simp -implicitDefEqProofs (disch := first | omega | (simp only [List.length_map, List.length_append, List.length_cons, List.length_nil, List.length_take, List.length_drop, repS_len, rngL_len, List.length_range, List.length_reverse]; done) | (simp only [List.length_map, List.length_append, List.length_cons, List.length_nil, List.length_take, List.length_drop, repS_len, rngL_len, List.length_range, List.length_reverse]; omega)) only [mVar_ev, mVarR_ev, getV_val, getR_val, getR_own, mC_ev, mOp_ev, mOpL_ev, mT_ev, asB_bl, mAnd_ev, mOr_ev, mNot_ev, mAndV_ev, mOrV_ev, mNotV_ev, mIf_ev, mNil_ev, mCons_ev, mTup_ev, mLst_ev, mCall_ev, mPn_ev, mPs_ev, asI_int, mSl_ev, mSlL_ev, asL_lst, asL_scr, asTp_tup, asSt_str, R_ite, mWalk_ev, mLe_ev, mNeg_ev, mSeq_ev, mSkip_ev, bind_nx, bind_rt, bind_rtL, bind_bk, bind_ct, bind_ex, bind_ite, lift_ok, lift_exc, lift_ite, mAsg_ev, mAsgL_ev, mDrop_ev, mRet_ev, mRetL_ev, mRetN_ev, mRetOwn_ev, getO_own, mIfS_ev, mSet1_ev, onO_own, onO_val, mAppend_ev, putO_own, mAsgG_ev, optSO_some, gSet_ev, gsNil_ev, gsCons_ev, obind_some, gTupM_1, gTupM_2, gTupM_3, gTupM_4, gTupM_5, gTupM_6, mFor_ev, retD_nx, retD_rt, retD_rtL, retD_ex, retD_ite, retLs_rtL, retLs_ex, retLs_ite, nth_zero, nth_succ, set_zero, set_succ, add_int, add_str, add_lst, lcat_lst, sub_int', neg_int', lt_int', le_int', gt_int', ge_int', mod_int', fdiv_int, mul_int', mul_str', isN_non, isN_int, notN_non, notN_int, eq_int', ne_int', eq_str', ne_str', eq_bl', ne_bl', len_str', len_lst, len_tup, len_scr, max_int, min_int, sl_str', sl_lst, sl_scr, lsl_lst, lsl_scr, ix_str', ix_lst, ix_tup', ix_scr, range1_ok, range2_ok, range3_ok, mMeth_ev, onStr_str, mComp_ev, mCh_ev, wipeE_nil, wipeE_cons, mYes_ev, int_int, int_bl, asW_lst, asW_tup, asW_scr, asW_str, lt_str', le_str', gt_str', ge_str', mRaise_ev, sum_ints, all_bls, any_bls, list_lst, list_tup, list_scr, sorted_ints', g_find_ev, g_find3_ev, g_find4_ev, g_rfind_ev, g_rfind4_ev, g_count_ev, g_count3_ev, g_count4_ev, g_startswith_ev, g_endswith_ev, Int.reduceToNat, List.getD_cons_zero, List.getD_cons_succ, List.length_map, List.length_reverse, Int.zero_mul, Int.mul_zero, Int.add_zero, Int.mul_one, nc0, nc1, nc2, nc3, nc4, nc5, nc6, nc7, nc8, nc9, nc10, nc11, nc12, nc13, List.cons_append, List.nil_append, decide_true, decide_false, not_false_eq_true, not_true_eq_false, mCallR_ev, retLE_rtL, retDE_rt, flatR_bl, flatR_int, flatR_str, flatR_non, flatR_exc, getOwn_own, mMut0_ev, mSetIx_ev, putIx_ok, rev_lst, lrep_ev, if_small, if_small', rngL_len, endS_nx, endS_rt, in_sign, notIn_sign, isN_str, notN_str, isN_tup, notN_tup, isi_int_int, isi_int_bool, isi_bl_bool, isi_bl_int, isi_str_str, isi_tup_tup, isi_lst_lst, isi_non_int, isi_non_tup, _root_.FL.R.ok_bind, _root_.FL.R.exc_bind, _root_.FL.R.stuck_bind, _root_.FL.R.pure_eq, List.append_nil, List.length_cons, List.length_nil, Nat.zero_add, Nat.reduceAdd, Nat.reduceLeDiff, Nat.reduceLT, and_self, and_true, true_and, nextK_nx, nextK_ct, nextK_bk, nextK_rt, nextK_rtL, nextK_ex, nextK_ite, decide_eq_true_eq, if_true, if_false, ite_true, ite_false, Bool.true_eq_false, Bool.false_eq_true, Bool.not_true, Bool.not_false, reduceIte, Bool.not_eq_true', decide_eq_false_iff_not, e_bgn t q (by omega) hq, e_enn t q (by omega) hq]
  congr 2
  split <;> omega
theorem e_step_j (o : D) : p_Down__step [o, .str t, .int (p : Int)] = .ok (oD (stpM .j t p)) := by
  rw [u_Down__step]; unfold b_Down__step stpM
  have e1 := e_rowN t p (by omega) hp
  have e2 := e_colN t p (by omega) hp
  have rl := row_last hp
  obtain ⟨l1, l2⟩ := enn_le hp
  have cl := count_lt (l := t) (p := p)
  simp -implicitDefEqProofs (disch := first | omega | (simp only [List.length_map, List.length_append, List.length_cons, List.length_nil, List.length_take, List.length_drop, repS_len, rngL_len, List.length_range, List.length_reverse]; done) | (simp only [List.length_map, List.length_append, List.length_cons, List.length_nil, List.length_take, List.length_drop, repS_len, rngL_len, List.length_range, List.length_reverse]; omega)) only [mVar_ev, mVarR_ev, getV_val, getR_val, getR_own, mC_ev, mOp_ev, mOpL_ev, mT_ev, asB_bl, mAnd_ev, mOr_ev, mNot_ev, mAndV_ev, mOrV_ev, mNotV_ev, mIf_ev, mNil_ev, mCons_ev, mTup_ev, mLst_ev, mCall_ev, mPn_ev, mPs_ev, asI_int, mSl_ev, mSlL_ev, asL_lst, asL_scr, asTp_tup, asSt_str, R_ite, mWalk_ev, mLe_ev, mNeg_ev, mSeq_ev, mSkip_ev, bind_rt, bind_rtL, bind_bk, bind_ct, bind_ex, bind_ite, lift_ok, lift_exc, lift_ite, mAsg_ev, mAsgL_ev, mDrop_ev, mRet_ev, mRetL_ev, mRetN_ev, mRetOwn_ev, getO_own, mIfS_ev, mSet1_ev, onO_own, onO_val, mAppend_ev, putO_own, mAsgG_ev, optSO_some, gSet_ev, gsNil_ev, gsCons_ev, obind_some, gTupM_1, gTupM_2, gTupM_3, gTupM_4, gTupM_5, gTupM_6, mFor_ev, retD_nx, retD_rt, retD_rtL, retD_ex, retD_ite, retLs_rtL, retLs_ex, retLs_ite, nth_zero, nth_succ, set_zero, set_succ, add_int, add_str, add_lst, lcat_lst, sub_int', neg_int', lt_int', le_int', gt_int', ge_int', mod_int', fdiv_int, mul_int', mul_str', isN_non, isN_int, notN_non, notN_int, eq_int', ne_int', eq_str', ne_str', eq_bl', ne_bl', len_str', len_lst, len_tup, len_scr, max_int, min_int, sl_str', sl_lst, sl_scr, lsl_lst, lsl_scr, ix_str', ix_lst, ix_tup', ix_scr, range1_ok, range2_ok, range3_ok, mMeth_ev, onStr_str, mComp_ev, mCh_ev, wipeE_nil, wipeE_cons, mYes_ev, int_int, int_bl, asW_lst, asW_tup, asW_scr, asW_str, lt_str', le_str', gt_str', ge_str', mRaise_ev, sum_ints, all_bls, any_bls, list_lst, list_tup, list_scr, sorted_ints', g_find_ev, g_find3_ev, g_find4_ev, g_rfind_ev, g_rfind4_ev, g_count_ev, g_count3_ev, g_count4_ev, g_startswith_ev, g_endswith_ev, Int.reduceToNat, List.getD_cons_zero, List.getD_cons_succ, List.length_map, List.length_reverse, Int.zero_mul, Int.mul_zero, Int.add_zero, Int.mul_one, nc0, nc1, nc2, nc3, nc4, nc5, nc6, nc7, nc8, nc9, nc10, nc11, nc12, nc13, List.cons_append, List.nil_append, decide_true, decide_false, not_false_eq_true, not_true_eq_false, mCallR_ev, retLE_rtL, retDE_rt, flatR_bl, flatR_int, flatR_str, flatR_non, flatR_exc, getOwn_own, mMut0_ev, mSetIx_ev, putIx_ok, rev_lst, lrep_ev, if_small, if_small', rngL_len, endS_nx, endS_rt, in_sign, notIn_sign, isN_str, notN_str, isN_tup, notN_tup, isi_int_int, isi_int_bool, isi_bl_bool, isi_bl_int, isi_str_str, isi_tup_tup, isi_lst_lst, isi_non_int, isi_non_tup, _root_.FL.R.ok_bind, _root_.FL.R.exc_bind, _root_.FL.R.stuck_bind, _root_.FL.R.pure_eq, List.append_nil, List.length_cons, List.length_nil, Nat.zero_add, Nat.reduceAdd, Nat.reduceLeDiff, Nat.reduceLT, and_self, and_true, true_and, nextK_nx, nextK_ct, nextK_bk, nextK_rt, nextK_rtL, nextK_ex, nextK_ite, decide_eq_true_eq, if_true, if_false, ite_true, ite_false, Bool.true_eq_false, Bool.false_eq_true, Bool.not_true, Bool.not_false, reduceIte, Bool.not_eq_true', decide_eq_false_iff_not, e1]
  rw [bind_nx]
  by_cases q : enn t p = t.length
  · have z : (((t.take p).count 10 : Nat) : Int) + 1 = (t.count 10 : Nat) + 1 := by have := rl.mp q; omega
    simp -implicitDefEqProofs (disch := first | omega | (simp only [List.length_map, List.length_append, List.length_cons, List.length_nil, List.length_take, List.length_drop, repS_len, rngL_len, List.length_range, List.length_reverse]; done) | (simp only [List.length_map, List.length_append, List.length_cons, List.length_nil, List.length_take, List.length_drop, repS_len, rngL_len, List.length_range, List.length_reverse]; omega)) only [mVar_ev, mVarR_ev, getV_val, getR_val, getR_own, mC_ev, mOp_ev, mOpL_ev, mT_ev, asB_bl, mAnd_ev, mOr_ev, mNot_ev, mAndV_ev, mOrV_ev, mNotV_ev, mIf_ev, mNil_ev, mCons_ev, mTup_ev, mLst_ev, mCall_ev, mPn_ev, mPs_ev, asI_int, mSl_ev, mSlL_ev, asL_lst, asL_scr, asTp_tup, asSt_str, R_ite, mWalk_ev, mLe_ev, mNeg_ev, mSeq_ev, mSkip_ev, bind_nx, bind_rt, bind_rtL, bind_bk, bind_ct, bind_ex, bind_ite, lift_ok, lift_exc, lift_ite, mAsg_ev, mAsgL_ev, mDrop_ev, mRet_ev, mRetL_ev, mRetN_ev, mRetOwn_ev, getO_own, mIfS_ev, mSet1_ev, onO_own, onO_val, mAppend_ev, putO_own, mAsgG_ev, optSO_some, gSet_ev, gsNil_ev, gsCons_ev, obind_some, gTupM_1, gTupM_2, gTupM_3, gTupM_4, gTupM_5, gTupM_6, mFor_ev, retD_nx, retD_rt, retD_rtL, retD_ex, retD_ite, retLs_rtL, retLs_ex, retLs_ite, nth_zero, nth_succ, set_zero, set_succ, add_int, add_str, add_lst, lcat_lst, sub_int', neg_int', lt_int', le_int', gt_int', ge_int', mod_int', fdiv_int, mul_int', mul_str', isN_non, isN_int, notN_non, notN_int, eq_int', ne_int', eq_str', ne_str', eq_bl', ne_bl', len_str', len_lst, len_tup, len_scr, max_int, min_int, sl_str', sl_lst, sl_scr, lsl_lst, lsl_scr, ix_str', ix_lst, ix_tup', ix_scr, range1_ok, range2_ok, range3_ok, mMeth_ev, onStr_str, mComp_ev, mCh_ev, wipeE_nil, wipeE_cons, mYes_ev, int_int, int_bl, asW_lst, asW_tup, asW_scr, asW_str, lt_str', le_str', gt_str', ge_str', mRaise_ev, sum_ints, all_bls, any_bls, list_lst, list_tup, list_scr, sorted_ints', g_find_ev, g_find3_ev, g_find4_ev, g_rfind_ev, g_rfind4_ev, g_count_ev, g_count3_ev, g_count4_ev, g_startswith_ev, g_endswith_ev, Int.reduceToNat, List.getD_cons_zero, List.getD_cons_succ, List.length_map, List.length_reverse, Int.zero_mul, Int.mul_zero, Int.add_zero, Int.mul_one, nc0, nc1, nc2, nc3, nc4, nc5, nc6, nc7, nc8, nc9, nc10, nc11, nc12, nc13, List.cons_append, List.nil_append, decide_true, decide_false, not_false_eq_true, not_true_eq_false, mCallR_ev, retLE_rtL, retDE_rt, flatR_bl, flatR_int, flatR_str, flatR_non, flatR_exc, getOwn_own, mMut0_ev, mSetIx_ev, putIx_ok, rev_lst, lrep_ev, if_small, if_small', rngL_len, endS_nx, endS_rt, in_sign, notIn_sign, isN_str, notN_str, isN_tup, notN_tup, isi_int_int, isi_int_bool, isi_bl_bool, isi_bl_int, isi_str_str, isi_tup_tup, isi_lst_lst, isi_non_int, isi_non_tup, _root_.FL.R.ok_bind, _root_.FL.R.exc_bind, _root_.FL.R.stuck_bind, _root_.FL.R.pure_eq, List.append_nil, List.length_cons, List.length_nil, Nat.zero_add, Nat.reduceAdd, Nat.reduceLeDiff, Nat.reduceLT, and_self, and_true, true_and, nextK_nx, nextK_ct, nextK_bk, nextK_rt, nextK_rtL, nextK_ex, nextK_ite, decide_eq_true_eq, if_true, if_false, ite_true, ite_false, Bool.true_eq_false, Bool.false_eq_true, Bool.not_true, Bool.not_false, reduceIte, Bool.not_eq_true', decide_eq_false_iff_not, e_row_count, eq_true z, if_pos q]; rfl
  · have z : ¬ (((t.take p).count 10 : Nat) : Int) + 1 = (t.count 10 : Nat) + 1 := fun w => q (rl.mpr (by omega))
    have e3 := e_placeN t lt (enn t p + 1) (p - bgn t p) (by omega)
    have rn := row_next hp (by omega)
    have bn : bgn t (enn t p + 1) = enn t p + 1 := bgn_at (.inr (by
      rcases (enn_spec hp).2.2.2 with w | w
      · omega
      · simpa using w))
    rw [rn, bn] at e3
    have e3' : p_place_of [.str t, .int ((((t.take p).count 10 : Nat) : Int) + 1), .int ((p - bgn t p : Nat) : Int)] = _ := e3
    simp -implicitDefEqProofs (disch := first | omega | (simp only [List.length_map, List.length_append, List.length_cons, List.length_nil, List.length_take, List.length_drop, repS_len, rngL_len, List.length_range, List.length_reverse]; done) | (simp only [List.length_map, List.length_append, List.length_cons, List.length_nil, List.length_take, List.length_drop, repS_len, rngL_len, List.length_range, List.length_reverse]; omega)) only [mVar_ev, mVarR_ev, getV_val, getR_val, getR_own, mC_ev, mOp_ev, mOpL_ev, mT_ev, asB_bl, mAnd_ev, mOr_ev, mNot_ev, mAndV_ev, mOrV_ev, mNotV_ev, mIf_ev, mNil_ev, mCons_ev, mTup_ev, mLst_ev, mCall_ev, mPn_ev, mPs_ev, asI_int, mSl_ev, mSlL_ev, asL_lst, asL_scr, asTp_tup, asSt_str, R_ite, mWalk_ev, mLe_ev, mNeg_ev, mSeq_ev, mSkip_ev, bind_nx, bind_rt, bind_rtL, bind_bk, bind_ct, bind_ex, bind_ite, lift_ok, lift_exc, lift_ite, mAsg_ev, mAsgL_ev, mDrop_ev, mRet_ev, mRetL_ev, mRetN_ev, mRetOwn_ev, getO_own, mIfS_ev, mSet1_ev, onO_own, onO_val, mAppend_ev, putO_own, mAsgG_ev, optSO_some, gSet_ev, gsNil_ev, gsCons_ev, obind_some, gTupM_1, gTupM_2, gTupM_3, gTupM_4, gTupM_5, gTupM_6, mFor_ev, retD_nx, retD_rt, retD_rtL, retD_ex, retD_ite, retLs_rtL, retLs_ex, retLs_ite, nth_zero, nth_succ, set_zero, set_succ, add_int, add_str, add_lst, lcat_lst, sub_int', neg_int', lt_int', le_int', gt_int', ge_int', mod_int', fdiv_int, mul_int', mul_str', isN_non, isN_int, notN_non, notN_int, eq_int', ne_int', eq_str', ne_str', eq_bl', ne_bl', len_str', len_lst, len_tup, len_scr, max_int, min_int, sl_str', sl_lst, sl_scr, lsl_lst, lsl_scr, ix_str', ix_lst, ix_tup', ix_scr, range1_ok, range2_ok, range3_ok, mMeth_ev, onStr_str, mComp_ev, mCh_ev, wipeE_nil, wipeE_cons, mYes_ev, int_int, int_bl, asW_lst, asW_tup, asW_scr, asW_str, lt_str', le_str', gt_str', ge_str', mRaise_ev, sum_ints, all_bls, any_bls, list_lst, list_tup, list_scr, sorted_ints', g_find_ev, g_find3_ev, g_find4_ev, g_rfind_ev, g_rfind4_ev, g_count_ev, g_count3_ev, g_count4_ev, g_startswith_ev, g_endswith_ev, Int.reduceToNat, List.getD_cons_zero, List.getD_cons_succ, List.length_map, List.length_reverse, Int.zero_mul, Int.mul_zero, Int.add_zero, Int.mul_one, nc0, nc1, nc2, nc3, nc4, nc5, nc6, nc7, nc8, nc9, nc10, nc11, nc12, nc13, List.cons_append, List.nil_append, decide_true, decide_false, not_false_eq_true, not_true_eq_false, mCallR_ev, retLE_rtL, retDE_rt, flatR_bl, flatR_int, flatR_str, flatR_non, flatR_exc, getOwn_own, mMut0_ev, mSetIx_ev, putIx_ok, rev_lst, lrep_ev, if_small, if_small', rngL_len, endS_nx, endS_rt, in_sign, notIn_sign, isN_str, notN_str, isN_tup, notN_tup, isi_int_int, isi_int_bool, isi_bl_bool, isi_bl_int, isi_str_str, isi_tup_tup, isi_lst_lst, isi_non_int, isi_non_tup, _root_.FL.R.ok_bind, _root_.FL.R.exc_bind, _root_.FL.R.stuck_bind, _root_.FL.R.pure_eq, List.append_nil, List.length_cons, List.length_nil, Nat.zero_add, Nat.reduceAdd, Nat.reduceLeDiff, Nat.reduceLT, and_self, and_true, true_and, nextK_nx, nextK_ct, nextK_bk, nextK_rt, nextK_rtL, nextK_ex, nextK_ite, decide_eq_true_eq, if_true, if_false, ite_true, ite_false, Bool.true_eq_false, Bool.false_eq_true, Bool.not_true, Bool.not_false, reduceIte, Bool.not_eq_true', decide_eq_false_iff_not, e_row_count, z, e2, e3', if_neg q]; rfl
theorem e_step_k (o : D) : p_Up__step [o, .str t, .int (p : Int)] = .ok (oD (stpM .k t p)) := by
  rw [u_Up__step]; unfold b_Up__step stpM
  have e1 := e_rowN t p (by omega) hp
  have e2 := e_colN t p (by omega) hp
  have rz := row_zero hp
  have sp := bgn_spec t p
  simp -implicitDefEqProofs (disch := first | omega | (simp only [List.length_map, List.length_append, List.length_cons, List.length_nil, List.length_take, List.length_drop, repS_len, rngL_len, List.length_range, List.length_reverse]; done) | (simp only [List.length_map, List.length_append, List.length_cons, List.length_nil, List.length_take, List.length_drop, repS_len, rngL_len, List.length_range, List.length_reverse]; omega)) only [mVar_ev, mVarR_ev, getV_val, getR_val, getR_own, mC_ev, mOp_ev, mOpL_ev, mT_ev, asB_bl, mAnd_ev, mOr_ev, mNot_ev, mAndV_ev, mOrV_ev, mNotV_ev, mIf_ev, mNil_ev, mCons_ev, mTup_ev, mLst_ev, mCall_ev, mPn_ev, mPs_ev, asI_int, mSl_ev, mSlL_ev, asL_lst, asL_scr, asTp_tup, asSt_str, R_ite, mWalk_ev, mLe_ev, mNeg_ev, mSeq_ev, mSkip_ev, bind_rt, bind_rtL, bind_bk, bind_ct, bind_ex, bind_ite, lift_ok, lift_exc, lift_ite, mAsg_ev, mAsgL_ev, mDrop_ev, mRet_ev, mRetL_ev, mRetN_ev, mRetOwn_ev, getO_own, mIfS_ev, mSet1_ev, onO_own, onO_val, mAppend_ev, putO_own, mAsgG_ev, optSO_some, gSet_ev, gsNil_ev, gsCons_ev, obind_some, gTupM_1, gTupM_2, gTupM_3, gTupM_4, gTupM_5, gTupM_6, mFor_ev, retD_nx, retD_rt, retD_rtL, retD_ex, retD_ite, retLs_rtL, retLs_ex, retLs_ite, nth_zero, nth_succ, set_zero, set_succ, add_int, add_str, add_lst, lcat_lst, sub_int', neg_int', lt_int', le_int', gt_int', ge_int', mod_int', fdiv_int, mul_int', mul_str', isN_non, isN_int, notN_non, notN_int, eq_int', ne_int', eq_str', ne_str', eq_bl', ne_bl', len_str', len_lst, len_tup, len_scr, max_int, min_int, sl_str', sl_lst, sl_scr, lsl_lst, lsl_scr, ix_str', ix_lst, ix_tup', ix_scr, range1_ok, range2_ok, range3_ok, mMeth_ev, onStr_str, mComp_ev, mCh_ev, wipeE_nil, wipeE_cons, mYes_ev, int_int, int_bl, asW_lst, asW_tup, asW_scr, asW_str, lt_str', le_str', gt_str', ge_str', mRaise_ev, sum_ints, all_bls, any_bls, list_lst, list_tup, list_scr, sorted_ints', g_find_ev, g_find3_ev, g_find4_ev, g_rfind_ev, g_rfind4_ev, g_count_ev, g_count3_ev, g_count4_ev, g_startswith_ev, g_endswith_ev, Int.reduceToNat, List.getD_cons_zero, List.getD_cons_succ, List.length_map, List.length_reverse, Int.zero_mul, Int.mul_zero, Int.add_zero, Int.mul_one, nc0, nc1, nc2, nc3, nc4, nc5, nc6, nc7, nc8, nc9, nc10, nc11, nc12, nc13, List.cons_append, List.nil_append, decide_true, decide_false, not_false_eq_true, not_true_eq_false, mCallR_ev, retLE_rtL, retDE_rt, flatR_bl, flatR_int, flatR_str, flatR_non, flatR_exc, getOwn_own, mMut0_ev, mSetIx_ev, putIx_ok, rev_lst, lrep_ev, if_small, if_small', rngL_len, endS_nx, endS_rt, in_sign, notIn_sign, isN_str, notN_str, isN_tup, notN_tup, isi_int_int, isi_int_bool, isi_bl_bool, isi_bl_int, isi_str_str, isi_tup_tup, isi_lst_lst, isi_non_int, isi_non_tup, _root_.FL.R.ok_bind, _root_.FL.R.exc_bind, _root_.FL.R.stuck_bind, _root_.FL.R.pure_eq, List.append_nil, List.length_cons, List.length_nil, Nat.zero_add, Nat.reduceAdd, Nat.reduceLeDiff, Nat.reduceLT, and_self, and_true, true_and, nextK_nx, nextK_ct, nextK_bk, nextK_rt, nextK_rtL, nextK_ex, nextK_ite, decide_eq_true_eq, if_true, if_false, ite_true, ite_false, Bool.true_eq_false, Bool.false_eq_true, Bool.not_true, Bool.not_false, reduceIte, Bool.not_eq_true', decide_eq_false_iff_not, e1]
  rw [bind_nx]
  by_cases q : bgn t p = 0
  · have z : (((t.take p).count 10 : Nat) : Int) - 1 < 0 := by have := rz.mp q; omega
    simp -implicitDefEqProofs (disch := first | omega | (simp only [List.length_map, List.length_append, List.length_cons, List.length_nil, List.length_take, List.length_drop, repS_len, rngL_len, List.length_range, List.length_reverse]; done) | (simp only [List.length_map, List.length_append, List.length_cons, List.length_nil, List.length_take, List.length_drop, repS_len, rngL_len, List.length_range, List.length_reverse]; omega)) only [mVar_ev, mVarR_ev, getV_val, getR_val, getR_own, mC_ev, mOp_ev, mOpL_ev, mT_ev, asB_bl, mAnd_ev, mOr_ev, mNot_ev, mAndV_ev, mOrV_ev, mNotV_ev, mIf_ev, mNil_ev, mCons_ev, mTup_ev, mLst_ev, mCall_ev, mPn_ev, mPs_ev, asI_int, mSl_ev, mSlL_ev, asL_lst, asL_scr, asTp_tup, asSt_str, R_ite, mWalk_ev, mLe_ev, mNeg_ev, mSeq_ev, mSkip_ev, bind_nx, bind_rt, bind_rtL, bind_bk, bind_ct, bind_ex, bind_ite, lift_ok, lift_exc, lift_ite, mAsg_ev, mAsgL_ev, mDrop_ev, mRet_ev, mRetL_ev, mRetN_ev, mRetOwn_ev, getO_own, mIfS_ev, mSet1_ev, onO_own, onO_val, mAppend_ev, putO_own, mAsgG_ev, optSO_some, gSet_ev, gsNil_ev, gsCons_ev, obind_some, gTupM_1, gTupM_2, gTupM_3, gTupM_4, gTupM_5, gTupM_6, mFor_ev, retD_nx, retD_rt, retD_rtL, retD_ex, retD_ite, retLs_rtL, retLs_ex, retLs_ite, nth_zero, nth_succ, set_zero, set_succ, add_int, add_str, add_lst, lcat_lst, sub_int', neg_int', lt_int', le_int', gt_int', ge_int', mod_int', fdiv_int, mul_int', mul_str', isN_non, isN_int, notN_non, notN_int, eq_int', ne_int', eq_str', ne_str', eq_bl', ne_bl', len_str', len_lst, len_tup, len_scr, max_int, min_int, sl_str', sl_lst, sl_scr, lsl_lst, lsl_scr, ix_str', ix_lst, ix_tup', ix_scr, range1_ok, range2_ok, range3_ok, mMeth_ev, onStr_str, mComp_ev, mCh_ev, wipeE_nil, wipeE_cons, mYes_ev, int_int, int_bl, asW_lst, asW_tup, asW_scr, asW_str, lt_str', le_str', gt_str', ge_str', mRaise_ev, sum_ints, all_bls, any_bls, list_lst, list_tup, list_scr, sorted_ints', g_find_ev, g_find3_ev, g_find4_ev, g_rfind_ev, g_rfind4_ev, g_count_ev, g_count3_ev, g_count4_ev, g_startswith_ev, g_endswith_ev, Int.reduceToNat, List.getD_cons_zero, List.getD_cons_succ, List.length_map, List.length_reverse, Int.zero_mul, Int.mul_zero, Int.add_zero, Int.mul_one, nc0, nc1, nc2, nc3, nc4, nc5, nc6, nc7, nc8, nc9, nc10, nc11, nc12, nc13, List.cons_append, List.nil_append, decide_true, decide_false, not_false_eq_true, not_true_eq_false, mCallR_ev, retLE_rtL, retDE_rt, flatR_bl, flatR_int, flatR_str, flatR_non, flatR_exc, getOwn_own, mMut0_ev, mSetIx_ev, putIx_ok, rev_lst, lrep_ev, if_small, if_small', rngL_len, endS_nx, endS_rt, in_sign, notIn_sign, isN_str, notN_str, isN_tup, notN_tup, isi_int_int, isi_int_bool, isi_bl_bool, isi_bl_int, isi_str_str, isi_tup_tup, isi_lst_lst, isi_non_int, isi_non_tup, _root_.FL.R.ok_bind, _root_.FL.R.exc_bind, _root_.FL.R.stuck_bind, _root_.FL.R.pure_eq, List.append_nil, List.length_cons, List.length_nil, Nat.zero_add, Nat.reduceAdd, Nat.reduceLeDiff, Nat.reduceLT, and_self, and_true, true_and, nextK_nx, nextK_ct, nextK_bk, nextK_rt, nextK_rtL, nextK_ex, nextK_ite, decide_eq_true_eq, if_true, if_false, ite_true, ite_false, Bool.true_eq_false, Bool.false_eq_true, Bool.not_true, Bool.not_false, reduceIte, Bool.not_eq_true', decide_eq_false_iff_not, eq_true z, if_pos q]; rfl
  · have z : ¬ (((t.take p).count 10 : Nat) : Int) - 1 < 0 := fun w => q (rz.mpr (by omega))
    have e3 := e_placeN t lt (bgn t p - 1) (p - bgn t p) (by omega)
    have rb := row_back hp (by omega)
    have en : enn t (bgn t p - 1) = bgn t p - 1 := by
      obtain ⟨a1, a2, a3, a4⟩ := enn_spec (t := t) (p := bgn t p - 1) (by omega)
      by_cases w : enn t (bgn t p - 1) = bgn t p - 1
      · exact w
      · rcases sp.2.2 with y | y
        · omega
        · exact absurd y (a3 _ (Nat.le_refl _) (by omega))
    rw [en] at e3
    have z2 : (((t.take p).count 10 : Nat) : Int) - 1 = (((t.take (bgn t p - 1)).count 10 : Nat) : Int) := by omega
    simp -implicitDefEqProofs (disch := first | omega | (simp only [List.length_map, List.length_append, List.length_cons, List.length_nil, List.length_take, List.length_drop, repS_len, rngL_len, List.length_range, List.length_reverse]; done) | (simp only [List.length_map, List.length_append, List.length_cons, List.length_nil, List.length_take, List.length_drop, repS_len, rngL_len, List.length_range, List.length_reverse]; omega)) only [mVar_ev, mVarR_ev, getV_val, getR_val, getR_own, mC_ev, mOp_ev, mOpL_ev, mT_ev, asB_bl, mAnd_ev, mOr_ev, mNot_ev, mAndV_ev, mOrV_ev, mNotV_ev, mIf_ev, mNil_ev, mCons_ev, mTup_ev, mLst_ev, mCall_ev, mPn_ev, mPs_ev, asI_int, mSl_ev, mSlL_ev, asL_lst, asL_scr, asTp_tup, asSt_str, R_ite, mWalk_ev, mLe_ev, mNeg_ev, mSeq_ev, mSkip_ev, bind_nx, bind_rt, bind_rtL, bind_bk, bind_ct, bind_ex, bind_ite, lift_ok, lift_exc, lift_ite, mAsg_ev, mAsgL_ev, mDrop_ev, mRet_ev, mRetL_ev, mRetN_ev, mRetOwn_ev, getO_own, mIfS_ev, mSet1_ev, onO_own, onO_val, mAppend_ev, putO_own, mAsgG_ev, optSO_some, gSet_ev, gsNil_ev, gsCons_ev, obind_some, gTupM_1, gTupM_2, gTupM_3, gTupM_4, gTupM_5, gTupM_6, mFor_ev, retD_nx, retD_rt, retD_rtL, retD_ex, retD_ite, retLs_rtL, retLs_ex, retLs_ite, nth_zero, nth_succ, set_zero, set_succ, add_int, add_str, add_lst, lcat_lst, sub_int', neg_int', lt_int', le_int', gt_int', ge_int', mod_int', fdiv_int, mul_int', mul_str', isN_non, isN_int, notN_non, notN_int, eq_int', ne_int', eq_str', ne_str', eq_bl', ne_bl', len_str', len_lst, len_tup, len_scr, max_int, min_int, sl_str', sl_lst, sl_scr, lsl_lst, lsl_scr, ix_str', ix_lst, ix_tup', ix_scr, range1_ok, range2_ok, range3_ok, mMeth_ev, onStr_str, mComp_ev, mCh_ev, wipeE_nil, wipeE_cons, mYes_ev, int_int, int_bl, asW_lst, asW_tup, asW_scr, asW_str, lt_str', le_str', gt_str', ge_str', mRaise_ev, sum_ints, all_bls, any_bls, list_lst, list_tup, list_scr, sorted_ints', g_find_ev, g_find3_ev, g_find4_ev, g_rfind_ev, g_rfind4_ev, g_count_ev, g_count3_ev, g_count4_ev, g_startswith_ev, g_endswith_ev, Int.reduceToNat, List.getD_cons_zero, List.getD_cons_succ, List.length_map, List.length_reverse, Int.zero_mul, Int.mul_zero, Int.add_zero, Int.mul_one, nc0, nc1, nc2, nc3, nc4, nc5, nc6, nc7, nc8, nc9, nc10, nc11, nc12, nc13, List.cons_append, List.nil_append, decide_true, decide_false, not_false_eq_true, not_true_eq_false, mCallR_ev, retLE_rtL, retDE_rt, flatR_bl, flatR_int, flatR_str, flatR_non, flatR_exc, getOwn_own, mMut0_ev, mSetIx_ev, putIx_ok, rev_lst, lrep_ev, if_small, if_small', rngL_len, endS_nx, endS_rt, in_sign, notIn_sign, isN_str, notN_str, isN_tup, notN_tup, isi_int_int, isi_int_bool, isi_bl_bool, isi_bl_int, isi_str_str, isi_tup_tup, isi_lst_lst, isi_non_int, isi_non_tup, _root_.FL.R.ok_bind, _root_.FL.R.exc_bind, _root_.FL.R.stuck_bind, _root_.FL.R.pure_eq, List.append_nil, List.length_cons, List.length_nil, Nat.zero_add, Nat.reduceAdd, Nat.reduceLeDiff, Nat.reduceLT, and_self, and_true, true_and, nextK_nx, nextK_ct, nextK_bk, nextK_rt, nextK_rtL, nextK_ex, nextK_ite, decide_eq_true_eq, if_true, if_false, ite_true, ite_false, Bool.true_eq_false, Bool.false_eq_true, Bool.not_true, Bool.not_false, reduceIte, Bool.not_eq_true', decide_eq_false_iff_not, z, e2, if_neg q]
    rw [z2, e3]; rfl
theorem e_step_z (o : D) : p_TextEnd__step [o, .str t, .int (p : Int)] = .ok (oD (stpM .z t p)) := by
  rw [u_TextEnd__step]; unfold b_TextEnd__step stpM
  simp -implicitDefEqProofs (disch := first | omega | (simp only [List.length_map, List.length_append, List.length_cons, List.length_nil, List.length_take, List.length_drop, repS_len, rngL_len, List.length_range, List.length_reverse]; done) | (simp only [List.length_map, List.length_append, List.length_cons, List.length_nil, List.length_take, List.length_drop, repS_len, rngL_len, List.length_range, List.length_reverse]; omega)) only [mVar_ev, mVarR_ev, getV_val, getR_val, getR_own, mC_ev, mOp_ev, mOpL_ev, mT_ev, asB_bl, mAnd_ev, mOr_ev, mNot_ev, mAndV_ev, mOrV_ev, mNotV_ev, mIf_ev, mNil_ev, mCons_ev, mTup_ev, mLst_ev, mCall_ev, mPn_ev, mPs_ev, asI_int, mSl_ev, mSlL_ev, asL_lst, asL_scr, asTp_tup, asSt_str, R_ite, mWalk_ev, mLe_ev, mNeg_ev, mSeq_ev, mSkip_ev, bind_nx, bind_rt, bind_rtL, bind_bk, bind_ct, bind_ex, bind_ite, lift_ok, lift_exc, lift_ite, mAsg_ev, mAsgL_ev, mDrop_ev, mRet_ev, mRetL_ev, mRetN_ev, mRetOwn_ev, getO_own, mIfS_ev, mSet1_ev, onO_own, onO_val, mAppend_ev, putO_own, mAsgG_ev, optSO_some, gSet_ev, gsNil_ev, gsCons_ev, obind_some, gTupM_1, gTupM_2, gTupM_3, gTupM_4, gTupM_5, gTupM_6, mFor_ev, retD_nx, retD_rt, retD_rtL, retD_ex, retD_ite, retLs_rtL, retLs_ex, retLs_ite, nth_zero, nth_succ, set_zero, set_succ, add_int, add_str, add_lst, lcat_lst, sub_int', neg_int', lt_int', le_int', gt_int', ge_int', mod_int', fdiv_int, mul_int', mul_str', isN_non, isN_int, notN_non, notN_int, eq_int', ne_int', eq_str', ne_str', eq_bl', ne_bl', len_str', len_lst, len_tup, len_scr, max_int, min_int, sl_str', sl_lst, sl_scr, lsl_lst, lsl_scr, ix_str', ix_lst, ix_tup', ix_scr, range1_ok, range2_ok, range3_ok, mMeth_ev, onStr_str, mComp_ev, mCh_ev, wipeE_nil, wipeE_cons, mYes_ev, int_int, int_bl, asW_lst, asW_tup, asW_scr, asW_str, lt_str', le_str', gt_str', ge_str', mRaise_ev, sum_ints, all_bls, any_bls, list_lst, list_tup, list_scr, sorted_ints', g_find_ev, g_find3_ev, g_find4_ev, g_rfind_ev, g_rfind4_ev, g_count_ev, g_count3_ev, g_count4_ev, g_startswith_ev, g_endswith_ev, Int.reduceToNat, List.getD_cons_zero, List.getD_cons_succ, List.length_map, List.length_reverse, Int.zero_mul, Int.mul_zero, Int.add_zero, Int.mul_one, nc0, nc1, nc2, nc3, nc4, nc5, nc6, nc7, nc8, nc9, nc10, nc11, nc12, nc13, List.cons_append, List.nil_append, decide_true, decide_false, not_false_eq_true, not_true_eq_false, mCallR_ev, retLE_rtL, retDE_rt, flatR_bl, flatR_int, flatR_str, flatR_non, flatR_exc, getOwn_own, mMut0_ev, mSetIx_ev, putIx_ok, rev_lst, lrep_ev, if_small, if_small', rngL_len, endS_nx, endS_rt, in_sign, notIn_sign, isN_str, notN_str, isN_tup, notN_tup, isi_int_int, isi_int_bool, isi_bl_bool, isi_bl_int, isi_str_str, isi_tup_tup, isi_lst_lst, isi_non_int, isi_non_tup, _root_.FL.R.ok_bind, _root_.FL.R.exc_bind, _root_.FL.R.stuck_bind, _root_.FL.R.pure_eq, List.append_nil, List.length_cons, List.length_nil, Nat.zero_add, Nat.reduceAdd, Nat.reduceLeDiff, Nat.reduceLT, and_self, and_true, true_and, nextK_nx, nextK_ct, nextK_bk, nextK_rt, nextK_rtL, nextK_ex, nextK_ite, decide_eq_true_eq, if_true, if_false, ite_true, ite_false, Bool.true_eq_false, Bool.false_eq_true, Bool.not_true, Bool.not_false, reduceIte, Bool.not_eq_true', decide_eq_false_iff_not]; rfl
theorem e_step_f (c : Nat) : p_Find__step [mvD (.f c), .str t, .int (p : Int)] = .ok (oD (stpM (.f c) t p)) := by
  rw [u_Find__step]; unfold b_Find__step stpM
  have e1 := e_rowN t p (by omega) hp
  have e2 := e_enn t p (by omega) hp
  obtain ⟨l1, l2⟩ := enn_le hp
  have ef : fldR ["Find"] "sign" (mvD (.f c)) = .ok (.str [c]) := rfl
  have e3 := find4_sg t c (p + 1) (enn t p) l2
  have e3' : PySem.Txt.findIn (mk t) (mk [c]) ((p : Int) + 1) ((enn t p : Nat) : Int) = _ := e3
  simp -implicitDefEqProofs (disch := first | omega | (simp only [List.length_map, List.length_append, List.length_cons, List.length_nil, List.length_take, List.length_drop, repS_len, rngL_len, List.length_range, List.length_reverse]; done) | (simp only [List.length_map, List.length_append, List.length_cons, List.length_nil, List.length_take, List.length_drop, repS_len, rngL_len, List.length_range, List.length_reverse]; omega)) only [mVar_ev, mVarR_ev, getV_val, getR_val, getR_own, mC_ev, mOp_ev, mOpL_ev, mT_ev, asB_bl, mAnd_ev, mOr_ev, mNot_ev, mAndV_ev, mOrV_ev, mNotV_ev, mIf_ev, mNil_ev, mCons_ev, mTup_ev, mLst_ev, mCall_ev, mPn_ev, mPs_ev, asI_int, mSl_ev, mSlL_ev, asL_lst, asL_scr, asTp_tup, asSt_str, R_ite, mWalk_ev, mLe_ev, mNeg_ev, mSeq_ev, mSkip_ev, bind_rt, bind_rtL, bind_bk, bind_ct, bind_ex, bind_ite, lift_ok, lift_exc, lift_ite, mAsg_ev, mAsgL_ev, mDrop_ev, mRet_ev, mRetL_ev, mRetN_ev, mRetOwn_ev, getO_own, mIfS_ev, mSet1_ev, onO_own, onO_val, mAppend_ev, putO_own, mAsgG_ev, optSO_some, gSet_ev, gsNil_ev, gsCons_ev, obind_some, gTupM_1, gTupM_2, gTupM_3, gTupM_4, gTupM_5, gTupM_6, mFor_ev, retD_nx, retD_rt, retD_rtL, retD_ex, retD_ite, retLs_rtL, retLs_ex, retLs_ite, nth_zero, nth_succ, set_zero, set_succ, add_int, add_str, add_lst, lcat_lst, sub_int', neg_int', lt_int', le_int', gt_int', ge_int', mod_int', fdiv_int, mul_int', mul_str', isN_non, isN_int, notN_non, notN_int, eq_int', ne_int', eq_str', ne_str', eq_bl', ne_bl', len_str', len_lst, len_tup, len_scr, max_int, min_int, sl_str', sl_lst, sl_scr, lsl_lst, lsl_scr, ix_str', ix_lst, ix_tup', ix_scr, range1_ok, range2_ok, range3_ok, mMeth_ev, onStr_str, mComp_ev, mCh_ev, wipeE_nil, wipeE_cons, mYes_ev, int_int, int_bl, asW_lst, asW_tup, asW_scr, asW_str, lt_str', le_str', gt_str', ge_str', mRaise_ev, sum_ints, all_bls, any_bls, list_lst, list_tup, list_scr, sorted_ints', g_find_ev, g_find3_ev, g_find4_ev, g_rfind_ev, g_rfind4_ev, g_count_ev, g_count3_ev, g_count4_ev, g_startswith_ev, g_endswith_ev, Int.reduceToNat, List.getD_cons_zero, List.getD_cons_succ, List.length_map, List.length_reverse, Int.zero_mul, Int.mul_zero, Int.add_zero, Int.mul_one, nc0, nc1, nc2, nc3, nc4, nc5, nc6, nc7, nc8, nc9, nc10, nc11, nc12, nc13, List.cons_append, List.nil_append, decide_true, decide_false, not_false_eq_true, not_true_eq_false, mCallR_ev, retLE_rtL, retDE_rt, flatR_bl, flatR_int, flatR_str, flatR_non, flatR_exc, getOwn_own, mMut0_ev, mSetIx_ev, putIx_ok, rev_lst, lrep_ev, if_small, if_small', rngL_len, endS_nx, endS_rt, in_sign, notIn_sign, isN_str, notN_str, isN_tup, notN_tup, isi_int_int, isi_int_bool, isi_bl_bool, isi_bl_int, isi_str_str, isi_tup_tup, isi_lst_lst, isi_non_int, isi_non_tup, _root_.FL.R.ok_bind, _root_.FL.R.exc_bind, _root_.FL.R.stuck_bind, _root_.FL.R.pure_eq, List.append_nil, List.length_cons, List.length_nil, Nat.zero_add, Nat.reduceAdd, Nat.reduceLeDiff, Nat.reduceLT, and_self, and_true, true_and, nextK_nx, nextK_ct, nextK_bk, nextK_rt, nextK_rtL, nextK_ex, nextK_ite, decide_eq_true_eq, if_true, if_false, ite_true, ite_false, Bool.true_eq_false, Bool.false_eq_true, Bool.not_true, Bool.not_false, reduceIte, Bool.not_eq_true', decide_eq_false_iff_not, mFld_ev, ef, e1, e2, e3']
  rw [bind_nx]
  show _ = R.ok (oD (fstN (fun v => decide (t.getD v 0 = c)) (p + 1) (enn t p - (p + 1))))
  cases fstN (fun v => decide (t.getD v 0 = c)) (p + 1) (enn t p - (p + 1)) with
  | none => simp -implicitDefEqProofs (disch := first | omega | (simp only [List.length_map, List.length_append, List.length_cons, List.length_nil, List.length_take, List.length_drop, repS_len, rngL_len, List.length_range, List.length_reverse]; done) | (simp only [List.length_map, List.length_append, List.length_cons, List.length_nil, List.length_take, List.length_drop, repS_len, rngL_len, List.length_range, List.length_reverse]; omega)) only [mVar_ev, mVarR_ev, getV_val, getR_val, getR_own, mC_ev, mOp_ev, mOpL_ev, mT_ev, asB_bl, mAnd_ev, mOr_ev, mNot_ev, mAndV_ev, mOrV_ev, mNotV_ev, mIf_ev, mNil_ev, mCons_ev, mTup_ev, mLst_ev, mCall_ev, mPn_ev, mPs_ev, asI_int, mSl_ev, mSlL_ev, asL_lst, asL_scr, asTp_tup, asSt_str, R_ite, mWalk_ev, mLe_ev, mNeg_ev, mSeq_ev, mSkip_ev, bind_nx, bind_rt, bind_rtL, bind_bk, bind_ct, bind_ex, bind_ite, lift_ok, lift_exc, lift_ite, mAsg_ev, mAsgL_ev, mDrop_ev, mRet_ev, mRetL_ev, mRetN_ev, mRetOwn_ev, getO_own, mIfS_ev, mSet1_ev, onO_own, onO_val, mAppend_ev, putO_own, mAsgG_ev, optSO_some, gSet_ev, gsNil_ev, gsCons_ev, obind_some, gTupM_1, gTupM_2, gTupM_3, gTupM_4, gTupM_5, gTupM_6, mFor_ev, retD_nx, retD_rt, retD_rtL, retD_ex, retD_ite, retLs_rtL, retLs_ex, retLs_ite, nth_zero, nth_succ, set_zero, set_succ, add_int, add_str, add_lst, lcat_lst, sub_int', neg_int', lt_int', le_int', gt_int', ge_int', mod_int', fdiv_int, mul_int', mul_str', isN_non, isN_int, notN_non, notN_int, eq_int', ne_int', eq_str', ne_str', eq_bl', ne_bl', len_str', len_lst, len_tup, len_scr, max_int, min_int, sl_str', sl_lst, sl_scr, lsl_lst, lsl_scr, ix_str', ix_lst, ix_tup', ix_scr, range1_ok, range2_ok, range3_ok, mMeth_ev, onStr_str, mComp_ev, mCh_ev, wipeE_nil, wipeE_cons, mYes_ev, int_int, int_bl, asW_lst, asW_tup, asW_scr, asW_str, lt_str', le_str', gt_str', ge_str', mRaise_ev, sum_ints, all_bls, any_bls, list_lst, list_tup, list_scr, sorted_ints', g_find_ev, g_find3_ev, g_find4_ev, g_rfind_ev, g_rfind4_ev, g_count_ev, g_count3_ev, g_count4_ev, g_startswith_ev, g_endswith_ev, Int.reduceToNat, List.getD_cons_zero, List.getD_cons_succ, List.length_map, List.length_reverse, Int.zero_mul, Int.mul_zero, Int.add_zero, Int.mul_one, nc0, nc1, nc2, nc3, nc4, nc5, nc6, nc7, nc8, nc9, nc10, nc11, nc12, nc13, List.cons_append, List.nil_append, decide_true, decide_false, not_false_eq_true, not_true_eq_false, mCallR_ev, retLE_rtL, retDE_rt, flatR_bl, flatR_int, flatR_str, flatR_non, flatR_exc, getOwn_own, mMut0_ev, mSetIx_ev, putIx_ok, rev_lst, lrep_ev, if_small, if_small', rngL_len, endS_nx, endS_rt, in_sign, notIn_sign, isN_str, notN_str, isN_tup, notN_tup, isi_int_int, isi_int_bool, isi_bl_bool, isi_bl_int, isi_str_str, isi_tup_tup, isi_lst_lst, isi_non_int, isi_non_tup, _root_.FL.R.ok_bind, _root_.FL.R.exc_bind, _root_.FL.R.stuck_bind, _root_.FL.R.pure_eq, List.append_nil, List.length_cons, List.length_nil, Nat.zero_add, Nat.reduceAdd, Nat.reduceLeDiff, Nat.reduceLT, and_self, and_true, true_and, nextK_nx, nextK_ct, nextK_bk, nextK_rt, nextK_rtL, nextK_ex, nextK_ite, decide_eq_true_eq, if_true, if_false, ite_true, ite_false, Bool.true_eq_false, Bool.false_eq_true, Bool.not_true, Bool.not_false, reduceIte, Bool.not_eq_true', decide_eq_false_iff_not]; rfl
  | some k =>
    have z : ¬ (k : Int) < 0 := by omega
    simp -implicitDefEqProofs (disch := first | omega | (simp only [List.length_map, List.length_append, List.length_cons, List.length_nil, List.length_take, List.length_drop, repS_len, rngL_len, List.length_range, List.length_reverse]; done) | (simp only [List.length_map, List.length_append, List.length_cons, List.length_nil, List.length_take, List.length_drop, repS_len, rngL_len, List.length_range, List.length_reverse]; omega)) only [mVar_ev, mVarR_ev, getV_val, getR_val, getR_own, mC_ev, mOp_ev, mOpL_ev, mT_ev, asB_bl, mAnd_ev, mOr_ev, mNot_ev, mAndV_ev, mOrV_ev, mNotV_ev, mIf_ev, mNil_ev, mCons_ev, mTup_ev, mLst_ev, mCall_ev, mPn_ev, mPs_ev, asI_int, mSl_ev, mSlL_ev, asL_lst, asL_scr, asTp_tup, asSt_str, R_ite, mWalk_ev, mLe_ev, mNeg_ev, mSeq_ev, mSkip_ev, bind_nx, bind_rt, bind_rtL, bind_bk, bind_ct, bind_ex, bind_ite, lift_ok, lift_exc, lift_ite, mAsg_ev, mAsgL_ev, mDrop_ev, mRet_ev, mRetL_ev, mRetN_ev, mRetOwn_ev, getO_own, mIfS_ev, mSet1_ev, onO_own, onO_val, mAppend_ev, putO_own, mAsgG_ev, optSO_some, gSet_ev, gsNil_ev, gsCons_ev, obind_some, gTupM_1, gTupM_2, gTupM_3, gTupM_4, gTupM_5, gTupM_6, mFor_ev, retD_nx, retD_rt, retD_rtL, retD_ex, retD_ite, retLs_rtL, retLs_ex, retLs_ite, nth_zero, nth_succ, set_zero, set_succ, add_int, add_str, add_lst, lcat_lst, sub_int', neg_int', lt_int', le_int', gt_int', ge_int', mod_int', fdiv_int, mul_int', mul_str', isN_non, isN_int, notN_non, notN_int, eq_int', ne_int', eq_str', ne_str', eq_bl', ne_bl', len_str', len_lst, len_tup, len_scr, max_int, min_int, sl_str', sl_lst, sl_scr, lsl_lst, lsl_scr, ix_str', ix_lst, ix_tup', ix_scr, range1_ok, range2_ok, range3_ok, mMeth_ev, onStr_str, mComp_ev, mCh_ev, wipeE_nil, wipeE_cons, mYes_ev, int_int, int_bl, asW_lst, asW_tup, asW_scr, asW_str, lt_str', le_str', gt_str', ge_str', mRaise_ev, sum_ints, all_bls, any_bls, list_lst, list_tup, list_scr, sorted_ints', g_find_ev, g_find3_ev, g_find4_ev, g_rfind_ev, g_rfind4_ev, g_count_ev, g_count3_ev, g_count4_ev, g_startswith_ev, g_endswith_ev, Int.reduceToNat, List.getD_cons_zero, List.getD_cons_succ, List.length_map, List.length_reverse, Int.zero_mul, Int.mul_zero, Int.add_zero, Int.mul_one, nc0, nc1, nc2, nc3, nc4, nc5, nc6, nc7, nc8, nc9, nc10, nc11, nc12, nc13, List.cons_append, List.nil_append, decide_true, decide_false, not_false_eq_true, not_true_eq_false, mCallR_ev, retLE_rtL, retDE_rt, flatR_bl, flatR_int, flatR_str, flatR_non, flatR_exc, getOwn_own, mMut0_ev, mSetIx_ev, putIx_ok, rev_lst, lrep_ev, if_small, if_small', rngL_len, endS_nx, endS_rt, in_sign, notIn_sign, isN_str, notN_str, isN_tup, notN_tup, isi_int_int, isi_int_bool, isi_bl_bool, isi_bl_int, isi_str_str, isi_tup_tup, isi_lst_lst, isi_non_int, isi_non_tup, _root_.FL.R.ok_bind, _root_.FL.R.exc_bind, _root_.FL.R.stuck_bind, _root_.FL.R.pure_eq, List.append_nil, List.length_cons, List.length_nil, Nat.zero_add, Nat.reduceAdd, Nat.reduceLeDiff, Nat.reduceLT, and_self, and_true, true_and, nextK_nx, nextK_ct, nextK_bk, nextK_rt, nextK_rtL, nextK_ex, nextK_ite, decide_eq_true_eq, if_true, if_false, ite_true, ite_false, Bool.true_eq_false, Bool.false_eq_true, Bool.not_true, Bool.not_false, reduceIte, Bool.not_eq_true', decide_eq_false_iff_not, z]; rfl
theorem e_step_t (c : Nat) : p_Trace__step [mvD (.t c), .str t, .int (p : Int)] = .ok (oD (stpM (.t c) t p)) := by
  rw [u_Trace__step]; unfold b_Trace__step stpM
  have e1 := e_rowN t p (by omega) hp
  have e2 := e_bgn t p (by omega) hp
  have ef : fldR ["Trace"] "sign" (mvD (.t c)) = .ok (.str [c]) := rfl
  have e3 := rfind4_sg t c (bgn t p) p hp
  simp -implicitDefEqProofs (disch := first | omega | (simp only [List.length_map, List.length_append, List.length_cons, List.length_nil, List.length_take, List.length_drop, repS_len, rngL_len, List.length_range, List.length_reverse]; done) | (simp only [List.length_map, List.length_append, List.length_cons, List.length_nil, List.length_take, List.length_drop, repS_len, rngL_len, List.length_range, List.length_reverse]; omega)) only [mVar_ev, mVarR_ev, getV_val, getR_val, getR_own, mC_ev, mOp_ev, mOpL_ev, mT_ev, asB_bl, mAnd_ev, mOr_ev, mNot_ev, mAndV_ev, mOrV_ev, mNotV_ev, mIf_ev, mNil_ev, mCons_ev, mTup_ev, mLst_ev, mCall_ev, mPn_ev, mPs_ev, asI_int, mSl_ev, mSlL_ev, asL_lst, asL_scr, asTp_tup, asSt_str, R_ite, mWalk_ev, mLe_ev, mNeg_ev, mSeq_ev, mSkip_ev, bind_rt, bind_rtL, bind_bk, bind_ct, bind_ex, bind_ite, lift_ok, lift_exc, lift_ite, mAsg_ev, mAsgL_ev, mDrop_ev, mRet_ev, mRetL_ev, mRetN_ev, mRetOwn_ev, getO_own, mIfS_ev, mSet1_ev, onO_own, onO_val, mAppend_ev, putO_own, mAsgG_ev, optSO_some, gSet_ev, gsNil_ev, gsCons_ev, obind_some, gTupM_1, gTupM_2, gTupM_3, gTupM_4, gTupM_5, gTupM_6, mFor_ev, retD_nx, retD_rt, retD_rtL, retD_ex, retD_ite, retLs_rtL, retLs_ex, retLs_ite, nth_zero, nth_succ, set_zero, set_succ, add_int, add_str, add_lst, lcat_lst, sub_int', neg_int', lt_int', le_int', gt_int', ge_int', mod_int', fdiv_int, mul_int', mul_str', isN_non, isN_int, notN_non, notN_int, eq_int', ne_int', eq_str', ne_str', eq_bl', ne_bl', len_str', len_lst, len_tup, len_scr, max_int, min_int, sl_str', sl_lst, sl_scr, lsl_lst, lsl_scr, ix_str', ix_lst, ix_tup', ix_scr, range1_ok, range2_ok, range3_ok, mMeth_ev, onStr_str, mComp_ev, mCh_ev, wipeE_nil, wipeE_cons, mYes_ev, int_int, int_bl, asW_lst, asW_tup, asW_scr, asW_str, lt_str', le_str', gt_str', ge_str', mRaise_ev, sum_ints, all_bls, any_bls, list_lst, list_tup, list_scr, sorted_ints', g_find_ev, g_find3_ev, g_find4_ev, g_rfind_ev, g_rfind4_ev, g_count_ev, g_count3_ev, g_count4_ev, g_startswith_ev, g_endswith_ev, Int.reduceToNat, List.getD_cons_zero, List.getD_cons_succ, List.length_map, List.length_reverse, Int.zero_mul, Int.mul_zero, Int.add_zero, Int.mul_one, nc0, nc1, nc2, nc3, nc4, nc5, nc6, nc7, nc8, nc9, nc10, nc11, nc12, nc13, List.cons_append, List.nil_append, decide_true, decide_false, not_false_eq_true, not_true_eq_false, mCallR_ev, retLE_rtL, retDE_rt, flatR_bl, flatR_int, flatR_str, flatR_non, flatR_exc, getOwn_own, mMut0_ev, mSetIx_ev, putIx_ok, rev_lst, lrep_ev, if_small, if_small', rngL_len, endS_nx, endS_rt, in_sign, notIn_sign, isN_str, notN_str, isN_tup, notN_tup, isi_int_int, isi_int_bool, isi_bl_bool, isi_bl_int, isi_str_str, isi_tup_tup, isi_lst_lst, isi_non_int, isi_non_tup, _root_.FL.R.ok_bind, _root_.FL.R.exc_bind, _root_.FL.R.stuck_bind, _root_.FL.R.pure_eq, List.append_nil, List.length_cons, List.length_nil, Nat.zero_add, Nat.reduceAdd, Nat.reduceLeDiff, Nat.reduceLT, and_self, and_true, true_and, nextK_nx, nextK_ct, nextK_bk, nextK_rt, nextK_rtL, nextK_ex, nextK_ite, decide_eq_true_eq, if_true, if_false, ite_true, ite_false, Bool.true_eq_false, Bool.false_eq_true, Bool.not_true, Bool.not_false, reduceIte, Bool.not_eq_true', decide_eq_false_iff_not, mFld_ev, ef, e1, e2, e3]
  rw [bind_nx]
  show _ = R.ok (oD (lstN (fun v => decide (t.getD v 0 = c)) (bgn t p) (p - bgn t p)))
  cases lstN (fun v => decide (t.getD v 0 = c)) (bgn t p) (p - bgn t p) with
  | none => simp -implicitDefEqProofs (disch := first | omega | (simp only [List.length_map, List.length_append, List.length_cons, List.length_nil, List.length_take, List.length_drop, repS_len, rngL_len, List.length_range, List.length_reverse]; done) | (simp only [List.length_map, List.length_append, List.length_cons, List.length_nil, List.length_take, List.length_drop, repS_len, rngL_len, List.length_range, List.length_reverse]; omega)) only [mVar_ev, mVarR_ev, getV_val, getR_val, getR_own, mC_ev, mOp_ev, mOpL_ev, mT_ev, asB_bl, mAnd_ev, mOr_ev, mNot_ev, mAndV_ev, mOrV_ev, mNotV_ev, mIf_ev, mNil_ev, mCons_ev, mTup_ev, mLst_ev, mCall_ev, mPn_ev, mPs_ev, asI_int, mSl_ev, mSlL_ev, asL_lst, asL_scr, asTp_tup, asSt_str, R_ite, mWalk_ev, mLe_ev, mNeg_ev, mSeq_ev, mSkip_ev, bind_nx, bind_rt, bind_rtL, bind_bk, bind_ct, bind_ex, bind_ite, lift_ok, lift_exc, lift_ite, mAsg_ev, mAsgL_ev, mDrop_ev, mRet_ev, mRetL_ev, mRetN_ev, mRetOwn_ev, getO_own, mIfS_ev, mSet1_ev, onO_own, onO_val, mAppend_ev, putO_own, mAsgG_ev, optSO_some, gSet_ev, gsNil_ev, gsCons_ev, obind_some, gTupM_1, gTupM_2, gTupM_3, gTupM_4, gTupM_5, gTupM_6, mFor_ev, retD_nx, retD_rt, retD_rtL, retD_ex, retD_ite, retLs_rtL, retLs_ex, retLs_ite, nth_zero, nth_succ, set_zero, set_succ, add_int, add_str, add_lst, lcat_lst, sub_int', neg_int', lt_int', le_int', gt_int', ge_int', mod_int', fdiv_int, mul_int', mul_str', isN_non, isN_int, notN_non, notN_int, eq_int', ne_int', eq_str', ne_str', eq_bl', ne_bl', len_str', len_lst, len_tup, len_scr, max_int, min_int, sl_str', sl_lst, sl_scr, lsl_lst, lsl_scr, ix_str', ix_lst, ix_tup', ix_scr, range1_ok, range2_ok, range3_ok, mMeth_ev, onStr_str, mComp_ev, mCh_ev, wipeE_nil, wipeE_cons, mYes_ev, int_int, int_bl, asW_lst, asW_tup, asW_scr, asW_str, lt_str', le_str', gt_str', ge_str', mRaise_ev, sum_ints, all_bls, any_bls, list_lst, list_tup, list_scr, sorted_ints', g_find_ev, g_find3_ev, g_find4_ev, g_rfind_ev, g_rfind4_ev, g_count_ev, g_count3_ev, g_count4_ev, g_startswith_ev, g_endswith_ev, Int.reduceToNat, List.getD_cons_zero, List.getD_cons_succ, List.length_map, List.length_reverse, Int.zero_mul, Int.mul_zero, Int.add_zero, Int.mul_one, nc0, nc1, nc2, nc3, nc4, nc5, nc6, nc7, nc8, nc9, nc10, nc11, nc12, nc13, List.cons_append, List.nil_append, decide_true, decide_false, not_false_eq_true, not_true_eq_false, mCallR_ev, retLE_rtL, retDE_rt, flatR_bl, flatR_int, flatR_str, flatR_non, flatR_exc, getOwn_own, mMut0_ev, mSetIx_ev, putIx_ok, rev_lst, lrep_ev, if_small, if_small', rngL_len, endS_nx, endS_rt, in_sign, notIn_sign, isN_str, notN_str, isN_tup, notN_tup, isi_int_int, isi_int_bool, isi_bl_bool, isi_bl_int, isi_str_str, isi_tup_tup, isi_lst_lst, isi_non_int, isi_non_tup, _root_.FL.R.ok_bind, _root_.FL.R.exc_bind, _root_.FL.R.stuck_bind, _root_.FL.R.pure_eq, List.append_nil, List.length_cons, List.length_nil, Nat.zero_add, Nat.reduceAdd, Nat.reduceLeDiff, Nat.reduceLT, and_self, and_true, true_and, nextK_nx, nextK_ct, nextK_bk, nextK_rt, nextK_rtL, nextK_ex, nextK_ite, decide_eq_true_eq, if_true, if_false, ite_true, ite_false, Bool.true_eq_false, Bool.false_eq_true, Bool.not_true, Bool.not_false, reduceIte, Bool.not_eq_true', decide_eq_false_iff_not]; rfl
  | some k =>
    have z : ¬ (k : Int) < 0 := by omega
    simp -implicitDefEqProofs (disch := first | omega | (simp only [List.length_map, List.length_append, List.length_cons, List.length_nil, List.length_take, List.length_drop, repS_len, rngL_len, List.length_range, List.length_reverse]; done) | (simp only [List.length_map, List.length_append, List.length_cons, List.length_nil, List.length_take, List.length_drop, repS_len, rngL_len, List.length_range, List.length_reverse]; omega)) only [mVar_ev, mVarR_ev, getV_val, getR_val, getR_own, mC_ev, mOp_ev, mOpL_ev, mT_ev, asB_bl, mAnd_ev, mOr_ev, mNot_ev, mAndV_ev, mOrV_ev, mNotV_ev, mIf_ev, mNil_ev, mCons_ev, mTup_ev, mLst_ev, mCall_ev, mPn_ev, mPs_ev, asI_int, mSl_ev, mSlL_ev, asL_lst, asL_scr, asTp_tup, asSt_str, R_ite, mWalk_ev, mLe_ev, mNeg_ev, mSeq_ev, mSkip_ev, bind_nx, bind_rt, bind_rtL, bind_bk, bind_ct, bind_ex, bind_ite, lift_ok, lift_exc, lift_ite, mAsg_ev, mAsgL_ev, mDrop_ev, mRet_ev, mRetL_ev, mRetN_ev, mRetOwn_ev, getO_own, mIfS_ev, mSet1_ev, onO_own, onO_val, mAppend_ev, putO_own, mAsgG_ev, optSO_some, gSet_ev, gsNil_ev, gsCons_ev, obind_some, gTupM_1, gTupM_2, gTupM_3, gTupM_4, gTupM_5, gTupM_6, mFor_ev, retD_nx, retD_rt, retD_rtL, retD_ex, retD_ite, retLs_rtL, retLs_ex, retLs_ite, nth_zero, nth_succ, set_zero, set_succ, add_int, add_str, add_lst, lcat_lst, sub_int', neg_int', lt_int', le_int', gt_int', ge_int', mod_int', fdiv_int, mul_int', mul_str', isN_non, isN_int, notN_non, notN_int, eq_int', ne_int', eq_str', ne_str', eq_bl', ne_bl', len_str', len_lst, len_tup, len_scr, max_int, min_int, sl_str', sl_lst, sl_scr, lsl_lst, lsl_scr, ix_str', ix_lst, ix_tup', ix_scr, range1_ok, range2_ok, range3_ok, mMeth_ev, onStr_str, mComp_ev, mCh_ev, wipeE_nil, wipeE_cons, mYes_ev, int_int, int_bl, asW_lst, asW_tup, asW_scr, asW_str, lt_str', le_str', gt_str', ge_str', mRaise_ev, sum_ints, all_bls, any_bls, list_lst, list_tup, list_scr, sorted_ints', g_find_ev, g_find3_ev, g_find4_ev, g_rfind_ev, g_rfind4_ev, g_count_ev, g_count3_ev, g_count4_ev, g_startswith_ev, g_endswith_ev, Int.reduceToNat, List.getD_cons_zero, List.getD_cons_succ, List.length_map, List.length_reverse, Int.zero_mul, Int.mul_zero, Int.add_zero, Int.mul_one, nc0, nc1, nc2, nc3, nc4, nc5, nc6, nc7, nc8, nc9, nc10, nc11, nc12, nc13, List.cons_append, List.nil_append, decide_true, decide_false, not_false_eq_true, not_true_eq_false, mCallR_ev, retLE_rtL, retDE_rt, flatR_bl, flatR_int, flatR_str, flatR_non, flatR_exc, getOwn_own, mMut0_ev, mSetIx_ev, putIx_ok, rev_lst, lrep_ev, if_small, if_small', rngL_len, endS_nx, endS_rt, in_sign, notIn_sign, isN_str, notN_str, isN_tup, notN_tup, isi_int_int, isi_int_bool, isi_bl_bool, isi_bl_int, isi_str_str, isi_tup_tup, isi_lst_lst, isi_non_int, isi_non_tup, _root_.FL.R.ok_bind, _root_.FL.R.exc_bind, _root_.FL.R.stuck_bind, _root_.FL.R.pure_eq, List.append_nil, List.length_cons, List.length_nil, Nat.zero_add, Nat.reduceAdd, Nat.reduceLeDiff, Nat.reduceLT, and_self, and_true, true_and, nextK_nx, nextK_ct, nextK_bk, nextK_rt, nextK_rtL, nextK_ex, nextK_ite, decide_eq_true_eq, if_true, if_false, ite_true, ite_false, Bool.true_eq_false, Bool.false_eq_true, Bool.not_true, Bool.not_false, reduceIte, Bool.not_eq_true', decide_eq_false_iff_not, z]; rfl
end

theorem e_step_p (t : List Nat) (p : Nat) (lt : t.length ≤ 600) (hp : p ≤ t.length) (o : D) : p_Across__step [o, .str t, .int (p : Int)] = .ok (oD (stpM .p t p)) := by
  have sp : stpM .p t p = (if p < t.length ∧ t.getD p 0 ∈ [40, 91, 123] then (ptn t p).map (· + 1) else if 0 < p ∧ t.getD (p - 1) 0 ∈ [41, 93, 125] then ptn t (p - 1) else none) := rfl
  rw [u_Across__step]; unfold b_Across__step
  have second : (mSeq (mIfS (mAnd (mT (mOp D.gt (mVar 2) (mC (.int 0)))) (mT (mOp D.in_ (mOp D.ix (mVar 1) (mOp D.sub (mVar 2) (mC (.int 1)))) (mC (.str [41, 93, 125])))))
      (mRet (mCall (fun ds => p_partner (ds ++ [])) (mCons (mVar 1) (mCons (mOp D.sub (mVar 2) (mC (.int 1))) mNil))))
      mSkip)
    (mRet (mC .non))) [.val o, .val (.str t), .val (.int (p : Int)), .no] = .rt (oD (if 0 < p ∧ t.getD (p - 1) 0 ∈ [41, 93, 125] then ptn t (p - 1) else none)) := by
    by_cases q : 0 < p
    · have q' : (0 : Int) < p := by omega
      have n1 : ((p : Int) - 1) = ((p - 1 : Nat) : Int) := by omega
      have ep := e_partner t (p - 1) lt (by omega)
      by_cases m : t.getD (p - 1) 0 ∈ [41, 93, 125]
      · simp -implicitDefEqProofs (disch := first | omega | (simp only [List.length_map, List.length_append, List.length_cons, List.length_nil, List.length_take, List.length_drop, repS_len, rngL_len, List.length_range, List.length_reverse]; done) | (simp only [List.length_map, List.length_append, List.length_cons, List.length_nil, List.length_take, List.length_drop, repS_len, rngL_len, List.length_range, List.length_reverse]; omega)) only [mVar_ev, mVarR_ev, getV_val, getR_val, getR_own, mC_ev, mOp_ev, mOpL_ev, mT_ev, asB_bl, mAnd_ev, mOr_ev, mNot_ev, mAndV_ev, mOrV_ev, mNotV_ev, mIf_ev, mNil_ev, mCons_ev, mTup_ev, mLst_ev, mCall_ev, mPn_ev, mPs_ev, asI_int, mSl_ev, mSlL_ev, asL_lst, asL_scr, asTp_tup, asSt_str, R_ite, mWalk_ev, mLe_ev, mNeg_ev, mSeq_ev, mSkip_ev, bind_nx, bind_rt, bind_rtL, bind_bk, bind_ct, bind_ex, bind_ite, lift_ok, lift_exc, lift_ite, mAsg_ev, mAsgL_ev, mDrop_ev, mRet_ev, mRetL_ev, mRetN_ev, mRetOwn_ev, getO_own, mIfS_ev, mSet1_ev, onO_own, onO_val, mAppend_ev, putO_own, mAsgG_ev, optSO_some, gSet_ev, gsNil_ev, gsCons_ev, obind_some, gTupM_1, gTupM_2, gTupM_3, gTupM_4, gTupM_5, gTupM_6, mFor_ev, retD_nx, retD_rt, retD_rtL, retD_ex, retD_ite, retLs_rtL, retLs_ex, retLs_ite, nth_zero, nth_succ, set_zero, set_succ, add_int, add_str, add_lst, lcat_lst, sub_int', neg_int', lt_int', le_int', gt_int', ge_int', mod_int', fdiv_int, mul_int', mul_str', isN_non, isN_int, notN_non, notN_int, eq_int', ne_int', eq_str', ne_str', eq_bl', ne_bl', len_str', len_lst, len_tup, len_scr, max_int, min_int, sl_str', sl_lst, sl_scr, lsl_lst, lsl_scr, ix_str', ix_lst, ix_tup', ix_scr, range1_ok, range2_ok, range3_ok, mMeth_ev, onStr_str, mComp_ev, mCh_ev, wipeE_nil, wipeE_cons, mYes_ev, int_int, int_bl, asW_lst, asW_tup, asW_scr, asW_str, lt_str', le_str', gt_str', ge_str', mRaise_ev, sum_ints, all_bls, any_bls, list_lst, list_tup, list_scr, sorted_ints', g_find_ev, g_find3_ev, g_find4_ev, g_rfind_ev, g_rfind4_ev, g_count_ev, g_count3_ev, g_count4_ev, g_startswith_ev, g_endswith_ev, Int.reduceToNat, List.getD_cons_zero, List.getD_cons_succ, List.length_map, List.length_reverse, Int.zero_mul, Int.mul_zero, Int.add_zero, Int.mul_one, nc0, nc1, nc2, nc3, nc4, nc5, nc6, nc7, nc8, nc9, nc10, nc11, nc12, nc13, List.cons_append, List.nil_append, decide_true, decide_false, not_false_eq_true, not_true_eq_false, mCallR_ev, retLE_rtL, retDE_rt, flatR_bl, flatR_int, flatR_str, flatR_non, flatR_exc, getOwn_own, mMut0_ev, mSetIx_ev, putIx_ok, rev_lst, lrep_ev, if_small, if_small', rngL_len, endS_nx, endS_rt, in_sign, notIn_sign, isN_str, notN_str, isN_tup, notN_tup, isi_int_int, isi_int_bool, isi_bl_bool, isi_bl_int, isi_str_str, isi_tup_tup, isi_lst_lst, isi_non_int, isi_non_tup, _root_.FL.R.ok_bind, _root_.FL.R.exc_bind, _root_.FL.R.stuck_bind, _root_.FL.R.pure_eq, List.append_nil, List.length_cons, List.length_nil, Nat.zero_add, Nat.reduceAdd, Nat.reduceLeDiff, Nat.reduceLT, and_self, and_true, true_and, nextK_nx, nextK_ct, nextK_bk, nextK_rt, nextK_rtL, nextK_ex, nextK_ite, decide_eq_true_eq, if_true, if_false, ite_true, ite_false, Bool.true_eq_false, Bool.false_eq_true, Bool.not_true, Bool.not_false, reduceIte, Bool.not_eq_true', decide_eq_false_iff_not, q', n1, Int.toNat_natCast, in_sg, decide_eq_true m, ep, if_pos (And.intro q m)]
      · simp -implicitDefEqProofs (disch := first | omega | (simp only [List.length_map, List.length_append, List.length_cons, List.length_nil, List.length_take, List.length_drop, repS_len, rngL_len, List.length_range, List.length_reverse]; done) | (simp only [List.length_map, List.length_append, List.length_cons, List.length_nil, List.length_take, List.length_drop, repS_len, rngL_len, List.length_range, List.length_reverse]; omega)) only [mVar_ev, mVarR_ev, getV_val, getR_val, getR_own, mC_ev, mOp_ev, mOpL_ev, mT_ev, asB_bl, mAnd_ev, mOr_ev, mNot_ev, mAndV_ev, mOrV_ev, mNotV_ev, mIf_ev, mNil_ev, mCons_ev, mTup_ev, mLst_ev, mCall_ev, mPn_ev, mPs_ev, asI_int, mSl_ev, mSlL_ev, asL_lst, asL_scr, asTp_tup, asSt_str, R_ite, mWalk_ev, mLe_ev, mNeg_ev, mSeq_ev, mSkip_ev, bind_nx, bind_rt, bind_rtL, bind_bk, bind_ct, bind_ex, bind_ite, lift_ok, lift_exc, lift_ite, mAsg_ev, mAsgL_ev, mDrop_ev, mRet_ev, mRetL_ev, mRetN_ev, mRetOwn_ev, getO_own, mIfS_ev, mSet1_ev, onO_own, onO_val, mAppend_ev, putO_own, mAsgG_ev, optSO_some, gSet_ev, gsNil_ev, gsCons_ev, obind_some, gTupM_1, gTupM_2, gTupM_3, gTupM_4, gTupM_5, gTupM_6, mFor_ev, retD_nx, retD_rt, retD_rtL, retD_ex, retD_ite, retLs_rtL, retLs_ex, retLs_ite, nth_zero, nth_succ, set_zero, set_succ, add_int, add_str, add_lst, lcat_lst, sub_int', neg_int', lt_int', le_int', gt_int', ge_int', mod_int', fdiv_int, mul_int', mul_str', isN_non, isN_int, notN_non, notN_int, eq_int', ne_int', eq_str', ne_str', eq_bl', ne_bl', len_str', len_lst, len_tup, len_scr, max_int, min_int, sl_str', sl_lst, sl_scr, lsl_lst, lsl_scr, ix_str', ix_lst, ix_tup', ix_scr, range1_ok, range2_ok, range3_ok, mMeth_ev, onStr_str, mComp_ev, mCh_ev, wipeE_nil, wipeE_cons, mYes_ev, int_int, int_bl, asW_lst, asW_tup, asW_scr, asW_str, lt_str', le_str', gt_str', ge_str', mRaise_ev, sum_ints, all_bls, any_bls, list_lst, list_tup, list_scr, sorted_ints', g_find_ev, g_find3_ev, g_find4_ev, g_rfind_ev, g_rfind4_ev, g_count_ev, g_count3_ev, g_count4_ev, g_startswith_ev, g_endswith_ev, Int.reduceToNat, List.getD_cons_zero, List.getD_cons_succ, List.length_map, List.length_reverse, Int.zero_mul, Int.mul_zero, Int.add_zero, Int.mul_one, nc0, nc1, nc2, nc3, nc4, nc5, nc6, nc7, nc8, nc9, nc10, nc11, nc12, nc13, List.cons_append, List.nil_append, decide_true, decide_false, not_false_eq_true, not_true_eq_false, mCallR_ev, retLE_rtL, retDE_rt, flatR_bl, flatR_int, flatR_str, flatR_non, flatR_exc, getOwn_own, mMut0_ev, mSetIx_ev, putIx_ok, rev_lst, lrep_ev, if_small, if_small', rngL_len, endS_nx, endS_rt, in_sign, notIn_sign, isN_str, notN_str, isN_tup, notN_tup, isi_int_int, isi_int_bool, isi_bl_bool, isi_bl_int, isi_str_str, isi_tup_tup, isi_lst_lst, isi_non_int, isi_non_tup, _root_.FL.R.ok_bind, _root_.FL.R.exc_bind, _root_.FL.R.stuck_bind, _root_.FL.R.pure_eq, List.append_nil, List.length_cons, List.length_nil, Nat.zero_add, Nat.reduceAdd, Nat.reduceLeDiff, Nat.reduceLT, and_self, and_true, true_and, nextK_nx, nextK_ct, nextK_bk, nextK_rt, nextK_rtL, nextK_ex, nextK_ite, decide_eq_true_eq, if_true, if_false, ite_true, ite_false, Bool.true_eq_false, Bool.false_eq_true, Bool.not_true, Bool.not_false, reduceIte, Bool.not_eq_true', decide_eq_false_iff_not, q', n1, Int.toNat_natCast, in_sg, decide_eq_false m, if_neg (fun z : 0 < p ∧ t.getD (p - 1) 0 ∈ [41, 93, 125] => m z.2)]
        rfl
    · have q' : ¬ (0 : Int) < p := by omega
      simp -implicitDefEqProofs (disch := first | omega | (simp only [List.length_map, List.length_append, List.length_cons, List.length_nil, List.length_take, List.length_drop, repS_len, rngL_len, List.length_range, List.length_reverse]; done) | (simp only [List.length_map, List.length_append, List.length_cons, List.length_nil, List.length_take, List.length_drop, repS_len, rngL_len, List.length_range, List.length_reverse]; omega)) only [mVar_ev, mVarR_ev, getV_val, getR_val, getR_own, mC_ev, mOp_ev, mOpL_ev, mT_ev, asB_bl, mAnd_ev, mOr_ev, mNot_ev, mAndV_ev, mOrV_ev, mNotV_ev, mIf_ev, mNil_ev, mCons_ev, mTup_ev, mLst_ev, mCall_ev, mPn_ev, mPs_ev, asI_int, mSl_ev, mSlL_ev, asL_lst, asL_scr, asTp_tup, asSt_str, R_ite, mWalk_ev, mLe_ev, mNeg_ev, mSeq_ev, mSkip_ev, bind_nx, bind_rt, bind_rtL, bind_bk, bind_ct, bind_ex, bind_ite, lift_ok, lift_exc, lift_ite, mAsg_ev, mAsgL_ev, mDrop_ev, mRet_ev, mRetL_ev, mRetN_ev, mRetOwn_ev, getO_own, mIfS_ev, mSet1_ev, onO_own, onO_val, mAppend_ev, putO_own, mAsgG_ev, optSO_some, gSet_ev, gsNil_ev, gsCons_ev, obind_some, gTupM_1, gTupM_2, gTupM_3, gTupM_4, gTupM_5, gTupM_6, mFor_ev, retD_nx, retD_rt, retD_rtL, retD_ex, retD_ite, retLs_rtL, retLs_ex, retLs_ite, nth_zero, nth_succ, set_zero, set_succ, add_int, add_str, add_lst, lcat_lst, sub_int', neg_int', lt_int', le_int', gt_int', ge_int', mod_int', fdiv_int, mul_int', mul_str', isN_non, isN_int, notN_non, notN_int, eq_int', ne_int', eq_str', ne_str', eq_bl', ne_bl', len_str', len_lst, len_tup, len_scr, max_int, min_int, sl_str', sl_lst, sl_scr, lsl_lst, lsl_scr, ix_str', ix_lst, ix_tup', ix_scr, range1_ok, range2_ok, range3_ok, mMeth_ev, onStr_str, mComp_ev, mCh_ev, wipeE_nil, wipeE_cons, mYes_ev, int_int, int_bl, asW_lst, asW_tup, asW_scr, asW_str, lt_str', le_str', gt_str', ge_str', mRaise_ev, sum_ints, all_bls, any_bls, list_lst, list_tup, list_scr, sorted_ints', g_find_ev, g_find3_ev, g_find4_ev, g_rfind_ev, g_rfind4_ev, g_count_ev, g_count3_ev, g_count4_ev, g_startswith_ev, g_endswith_ev, Int.reduceToNat, List.getD_cons_zero, List.getD_cons_succ, List.length_map, List.length_reverse, Int.zero_mul, Int.mul_zero, Int.add_zero, Int.mul_one, nc0, nc1, nc2, nc3, nc4, nc5, nc6, nc7, nc8, nc9, nc10, nc11, nc12, nc13, List.cons_append, List.nil_append, decide_true, decide_false, not_false_eq_true, not_true_eq_false, mCallR_ev, retLE_rtL, retDE_rt, flatR_bl, flatR_int, flatR_str, flatR_non, flatR_exc, getOwn_own, mMut0_ev, mSetIx_ev, putIx_ok, rev_lst, lrep_ev, if_small, if_small', rngL_len, endS_nx, endS_rt, in_sign, notIn_sign, isN_str, notN_str, isN_tup, notN_tup, isi_int_int, isi_int_bool, isi_bl_bool, isi_bl_int, isi_str_str, isi_tup_tup, isi_lst_lst, isi_non_int, isi_non_tup, _root_.FL.R.ok_bind, _root_.FL.R.exc_bind, _root_.FL.R.stuck_bind, _root_.FL.R.pure_eq, List.append_nil, List.length_cons, List.length_nil, Nat.zero_add, Nat.reduceAdd, Nat.reduceLeDiff, Nat.reduceLT, and_self, and_true, true_and, nextK_nx, nextK_ct, nextK_bk, nextK_rt, nextK_rtL, nextK_ex, nextK_ite, decide_eq_true_eq, if_true, if_false, ite_true, ite_false, Bool.true_eq_false, Bool.false_eq_true, Bool.not_true, Bool.not_false, reduceIte, Bool.not_eq_true', decide_eq_false_iff_not, q', if_neg (fun z : 0 < p ∧ t.getD (p - 1) 0 ∈ [41, 93, 125] => q z.1)]
      rfl
  rw [mSeq_ev]
  by_cases q : p < t.length
  · have q' : (p : Int) < t.length := by omega
    have ep := e_partner t p lt q
    by_cases m : t.getD p 0 ∈ [40, 91, 123]
    · rw [sp, if_pos (show p < t.length ∧ t.getD p 0 ∈ [40, 91, 123] from ⟨q, m⟩)]
      cases h : ptn t p with
      | none =>
        rw [h] at ep
        have ep' : p_partner [.str t, .int (p : Int)] = .ok .non := ep
        simp -implicitDefEqProofs (disch := first | omega | (simp only [List.length_map, List.length_append, List.length_cons, List.length_nil, List.length_take, List.length_drop, repS_len, rngL_len, List.length_range, List.length_reverse]; done) | (simp only [List.length_map, List.length_append, List.length_cons, List.length_nil, List.length_take, List.length_drop, repS_len, rngL_len, List.length_range, List.length_reverse]; omega)) only [mVar_ev, mVarR_ev, getV_val, getR_val, getR_own, mC_ev, mOp_ev, mOpL_ev, mT_ev, asB_bl, mAnd_ev, mOr_ev, mNot_ev, mAndV_ev, mOrV_ev, mNotV_ev, mIf_ev, mNil_ev, mCons_ev, mTup_ev, mLst_ev, mCall_ev, mPn_ev, mPs_ev, asI_int, mSl_ev, mSlL_ev, asL_lst, asL_scr, asTp_tup, asSt_str, R_ite, mWalk_ev, mLe_ev, mNeg_ev, mSeq_ev, mSkip_ev, bind_nx, bind_rt, bind_rtL, bind_bk, bind_ct, bind_ex, bind_ite, lift_ok, lift_exc, lift_ite, mAsg_ev, mAsgL_ev, mDrop_ev, mRet_ev, mRetL_ev, mRetN_ev, mRetOwn_ev, getO_own, mIfS_ev, mSet1_ev, onO_own, onO_val, mAppend_ev, putO_own, mAsgG_ev, optSO_some, gSet_ev, gsNil_ev, gsCons_ev, obind_some, gTupM_1, gTupM_2, gTupM_3, gTupM_4, gTupM_5, gTupM_6, mFor_ev, retD_nx, retD_rt, retD_rtL, retD_ex, retD_ite, retLs_rtL, retLs_ex, retLs_ite, nth_zero, nth_succ, set_zero, set_succ, add_int, add_str, add_lst, lcat_lst, sub_int', neg_int', lt_int', le_int', gt_int', ge_int', mod_int', fdiv_int, mul_int', mul_str', isN_non, isN_int, notN_non, notN_int, eq_int', ne_int', eq_str', ne_str', eq_bl', ne_bl', len_str', len_lst, len_tup, len_scr, max_int, min_int, sl_str', sl_lst, sl_scr, lsl_lst, lsl_scr, ix_str', ix_lst, ix_tup', ix_scr, range1_ok, range2_ok, range3_ok, mMeth_ev, onStr_str, mComp_ev, mCh_ev, wipeE_nil, wipeE_cons, mYes_ev, int_int, int_bl, asW_lst, asW_tup, asW_scr, asW_str, lt_str', le_str', gt_str', ge_str', mRaise_ev, sum_ints, all_bls, any_bls, list_lst, list_tup, list_scr, sorted_ints', g_find_ev, g_find3_ev, g_find4_ev, g_rfind_ev, g_rfind4_ev, g_count_ev, g_count3_ev, g_count4_ev, g_startswith_ev, g_endswith_ev, Int.reduceToNat, List.getD_cons_zero, List.getD_cons_succ, List.length_map, List.length_reverse, Int.zero_mul, Int.mul_zero, Int.add_zero, Int.mul_one, nc0, nc1, nc2, nc3, nc4, nc5, nc6, nc7, nc8, nc9, nc10, nc11, nc12, nc13, List.cons_append, List.nil_append, decide_true, decide_false, not_false_eq_true, not_true_eq_false, mCallR_ev, retLE_rtL, retDE_rt, flatR_bl, flatR_int, flatR_str, flatR_non, flatR_exc, getOwn_own, mMut0_ev, mSetIx_ev, putIx_ok, rev_lst, lrep_ev, if_small, if_small', rngL_len, endS_nx, endS_rt, in_sign, notIn_sign, isN_str, notN_str, isN_tup, notN_tup, isi_int_int, isi_int_bool, isi_bl_bool, isi_bl_int, isi_str_str, isi_tup_tup, isi_lst_lst, isi_non_int, isi_non_tup, _root_.FL.R.ok_bind, _root_.FL.R.exc_bind, _root_.FL.R.stuck_bind, _root_.FL.R.pure_eq, List.append_nil, List.length_cons, List.length_nil, Nat.zero_add, Nat.reduceAdd, Nat.reduceLeDiff, Nat.reduceLT, and_self, and_true, true_and, nextK_nx, nextK_ct, nextK_bk, nextK_rt, nextK_rtL, nextK_ex, nextK_ite, decide_eq_true_eq, if_true, if_false, ite_true, ite_false, Bool.true_eq_false, Bool.false_eq_true, Bool.not_true, Bool.not_false, reduceIte, Bool.not_eq_true', decide_eq_false_iff_not, q', Int.toNat_natCast, in_sg, decide_eq_true m, ep']
        rfl
      | some k =>
        rw [h] at ep
        have ep' : p_partner [.str t, .int (p : Int)] = .ok (.int (k : Nat)) := ep
        simp -implicitDefEqProofs (disch := first | omega | (simp only [List.length_map, List.length_append, List.length_cons, List.length_nil, List.length_take, List.length_drop, repS_len, rngL_len, List.length_range, List.length_reverse]; done) | (simp only [List.length_map, List.length_append, List.length_cons, List.length_nil, List.length_take, List.length_drop, repS_len, rngL_len, List.length_range, List.length_reverse]; omega)) only [mVar_ev, mVarR_ev, getV_val, getR_val, getR_own, mC_ev, mOp_ev, mOpL_ev, mT_ev, asB_bl, mAnd_ev, mOr_ev, mNot_ev, mAndV_ev, mOrV_ev, mNotV_ev, mIf_ev, mNil_ev, mCons_ev, mTup_ev, mLst_ev, mCall_ev, mPn_ev, mPs_ev, asI_int, mSl_ev, mSlL_ev, asL_lst, asL_scr, asTp_tup, asSt_str, R_ite, mWalk_ev, mLe_ev, mNeg_ev, mSeq_ev, mSkip_ev, bind_nx, bind_rt, bind_rtL, bind_bk, bind_ct, bind_ex, bind_ite, lift_ok, lift_exc, lift_ite, mAsg_ev, mAsgL_ev, mDrop_ev, mRet_ev, mRetL_ev, mRetN_ev, mRetOwn_ev, getO_own, mIfS_ev, mSet1_ev, onO_own, onO_val, mAppend_ev, putO_own, mAsgG_ev, optSO_some, gSet_ev, gsNil_ev, gsCons_ev, obind_some, gTupM_1, gTupM_2, gTupM_3, gTupM_4, gTupM_5, gTupM_6, mFor_ev, retD_nx, retD_rt, retD_rtL, retD_ex, retD_ite, retLs_rtL, retLs_ex, retLs_ite, nth_zero, nth_succ, set_zero, set_succ, add_int, add_str, add_lst, lcat_lst, sub_int', neg_int', lt_int', le_int', gt_int', ge_int', mod_int', fdiv_int, mul_int', mul_str', isN_non, isN_int, notN_non, notN_int, eq_int', ne_int', eq_str', ne_str', eq_bl', ne_bl', len_str', len_lst, len_tup, len_scr, max_int, min_int, sl_str', sl_lst, sl_scr, lsl_lst, lsl_scr, ix_str', ix_lst, ix_tup', ix_scr, range1_ok, range2_ok, range3_ok, mMeth_ev, onStr_str, mComp_ev, mCh_ev, wipeE_nil, wipeE_cons, mYes_ev, int_int, int_bl, asW_lst, asW_tup, asW_scr, asW_str, lt_str', le_str', gt_str', ge_str', mRaise_ev, sum_ints, all_bls, any_bls, list_lst, list_tup, list_scr, sorted_ints', g_find_ev, g_find3_ev, g_find4_ev, g_rfind_ev, g_rfind4_ev, g_count_ev, g_count3_ev, g_count4_ev, g_startswith_ev, g_endswith_ev, Int.reduceToNat, List.getD_cons_zero, List.getD_cons_succ, List.length_map, List.length_reverse, Int.zero_mul, Int.mul_zero, Int.add_zero, Int.mul_one, nc0, nc1, nc2, nc3, nc4, nc5, nc6, nc7, nc8, nc9, nc10, nc11, nc12, nc13, List.cons_append, List.nil_append, decide_true, decide_false, not_false_eq_true, not_true_eq_false, mCallR_ev, retLE_rtL, retDE_rt, flatR_bl, flatR_int, flatR_str, flatR_non, flatR_exc, getOwn_own, mMut0_ev, mSetIx_ev, putIx_ok, rev_lst, lrep_ev, if_small, if_small', rngL_len, endS_nx, endS_rt, in_sign, notIn_sign, isN_str, notN_str, isN_tup, notN_tup, isi_int_int, isi_int_bool, isi_bl_bool, isi_bl_int, isi_str_str, isi_tup_tup, isi_lst_lst, isi_non_int, isi_non_tup, _root_.FL.R.ok_bind, _root_.FL.R.exc_bind, _root_.FL.R.stuck_bind, _root_.FL.R.pure_eq, List.append_nil, List.length_cons, List.length_nil, Nat.zero_add, Nat.reduceAdd, Nat.reduceLeDiff, Nat.reduceLT, and_self, and_true, true_and, nextK_nx, nextK_ct, nextK_bk, nextK_rt, nextK_rtL, nextK_ex, nextK_ite, decide_eq_true_eq, if_true, if_false, ite_true, ite_false, Bool.true_eq_false, Bool.false_eq_true, Bool.not_true, Bool.not_false, reduceIte, Bool.not_eq_true', decide_eq_false_iff_not, q', Int.toNat_natCast, in_sg, decide_eq_true m, ep']
        rfl
    · rw [sp, if_neg (show ¬ (p < t.length ∧ t.getD p 0 ∈ [40, 91, 123]) from fun z => m z.2)]
      have : (mIfS (mAnd (mT (mOp D.lt (mVar 2) (mCall gLen (mCons (mVar 1) mNil)))) (mT (mOp D.in_ (mOp D.ix (mVar 1) (mVar 2)) (mC (.str [40, 91, 123])))))
      (mSeq (mAsg 3 (mCall (fun ds => p_partner (ds ++ [])) (mCons (mVar 1) (mCons (mVar 2) mNil))))
      (mSeq (mIfS (mT (mOp D.isN (mVar 3) (mC .non)))
        (mRet (mC .non))
        mSkip)
      (mRet (mOp D.add (mVar 3) (mC (.int 1))))))
      mSkip) [.val o, .val (.str t), .val (.int (p : Int)), .no] = .nx [.val o, .val (.str t), .val (.int (p : Int)), .no] := by
        simp -implicitDefEqProofs (disch := first | omega | (simp only [List.length_map, List.length_append, List.length_cons, List.length_nil, List.length_take, List.length_drop, repS_len, rngL_len, List.length_range, List.length_reverse]; done) | (simp only [List.length_map, List.length_append, List.length_cons, List.length_nil, List.length_take, List.length_drop, repS_len, rngL_len, List.length_range, List.length_reverse]; omega)) only [mVar_ev, mVarR_ev, getV_val, getR_val, getR_own, mC_ev, mOp_ev, mOpL_ev, mT_ev, asB_bl, mAnd_ev, mOr_ev, mNot_ev, mAndV_ev, mOrV_ev, mNotV_ev, mIf_ev, mNil_ev, mCons_ev, mTup_ev, mLst_ev, mCall_ev, mPn_ev, mPs_ev, asI_int, mSl_ev, mSlL_ev, asL_lst, asL_scr, asTp_tup, asSt_str, R_ite, mWalk_ev, mLe_ev, mNeg_ev, mSeq_ev, mSkip_ev, bind_nx, bind_rt, bind_rtL, bind_bk, bind_ct, bind_ex, bind_ite, lift_ok, lift_exc, lift_ite, mAsg_ev, mAsgL_ev, mDrop_ev, mRet_ev, mRetL_ev, mRetN_ev, mRetOwn_ev, getO_own, mIfS_ev, mSet1_ev, onO_own, onO_val, mAppend_ev, putO_own, mAsgG_ev, optSO_some, gSet_ev, gsNil_ev, gsCons_ev, obind_some, gTupM_1, gTupM_2, gTupM_3, gTupM_4, gTupM_5, gTupM_6, mFor_ev, retD_nx, retD_rt, retD_rtL, retD_ex, retD_ite, retLs_rtL, retLs_ex, retLs_ite, nth_zero, nth_succ, set_zero, set_succ, add_int, add_str, add_lst, lcat_lst, sub_int', neg_int', lt_int', le_int', gt_int', ge_int', mod_int', fdiv_int, mul_int', mul_str', isN_non, isN_int, notN_non, notN_int, eq_int', ne_int', eq_str', ne_str', eq_bl', ne_bl', len_str', len_lst, len_tup, len_scr, max_int, min_int, sl_str', sl_lst, sl_scr, lsl_lst, lsl_scr, ix_str', ix_lst, ix_tup', ix_scr, range1_ok, range2_ok, range3_ok, mMeth_ev, onStr_str, mComp_ev, mCh_ev, wipeE_nil, wipeE_cons, mYes_ev, int_int, int_bl, asW_lst, asW_tup, asW_scr, asW_str, lt_str', le_str', gt_str', ge_str', mRaise_ev, sum_ints, all_bls, any_bls, list_lst, list_tup, list_scr, sorted_ints', g_find_ev, g_find3_ev, g_find4_ev, g_rfind_ev, g_rfind4_ev, g_count_ev, g_count3_ev, g_count4_ev, g_startswith_ev, g_endswith_ev, Int.reduceToNat, List.getD_cons_zero, List.getD_cons_succ, List.length_map, List.length_reverse, Int.zero_mul, Int.mul_zero, Int.add_zero, Int.mul_one, nc0, nc1, nc2, nc3, nc4, nc5, nc6, nc7, nc8, nc9, nc10, nc11, nc12, nc13, List.cons_append, List.nil_append, decide_true, decide_false, not_false_eq_true, not_true_eq_false, mCallR_ev, retLE_rtL, retDE_rt, flatR_bl, flatR_int, flatR_str, flatR_non, flatR_exc, getOwn_own, mMut0_ev, mSetIx_ev, putIx_ok, rev_lst, lrep_ev, if_small, if_small', rngL_len, endS_nx, endS_rt, in_sign, notIn_sign, isN_str, notN_str, isN_tup, notN_tup, isi_int_int, isi_int_bool, isi_bl_bool, isi_bl_int, isi_str_str, isi_tup_tup, isi_lst_lst, isi_non_int, isi_non_tup, _root_.FL.R.ok_bind, _root_.FL.R.exc_bind, _root_.FL.R.stuck_bind, _root_.FL.R.pure_eq, List.append_nil, List.length_cons, List.length_nil, Nat.zero_add, Nat.reduceAdd, Nat.reduceLeDiff, Nat.reduceLT, and_self, and_true, true_and, nextK_nx, nextK_ct, nextK_bk, nextK_rt, nextK_rtL, nextK_ex, nextK_ite, decide_eq_true_eq, if_true, if_false, ite_true, ite_false, Bool.true_eq_false, Bool.false_eq_true, Bool.not_true, Bool.not_false, reduceIte, Bool.not_eq_true', decide_eq_false_iff_not, q', Int.toNat_natCast, in_sg, decide_eq_false m]
      rw [this, bind_nx, second]
      rfl
  · have q' : ¬ (p : Int) < t.length := by omega
    rw [sp, if_neg (show ¬ (p < t.length ∧ t.getD p 0 ∈ [40, 91, 123]) from fun z => q z.1)]
    have : (mIfS (mAnd (mT (mOp D.lt (mVar 2) (mCall gLen (mCons (mVar 1) mNil)))) (mT (mOp D.in_ (mOp D.ix (mVar 1) (mVar 2)) (mC (.str [40, 91, 123])))))
      (mSeq (mAsg 3 (mCall (fun ds => p_partner (ds ++ [])) (mCons (mVar 1) (mCons (mVar 2) mNil))))
      (mSeq (mIfS (mT (mOp D.isN (mVar 3) (mC .non)))
        (mRet (mC .non))
        mSkip)
      (mRet (mOp D.add (mVar 3) (mC (.int 1))))))
      mSkip) [.val o, .val (.str t), .val (.int (p : Int)), .no] = .nx [.val o, .val (.str t), .val (.int (p : Int)), .no] := by
      simp -implicitDefEqProofs (disch := first | omega | (simp only [List.length_map, List.length_append, List.length_cons, List.length_nil, List.length_take, List.length_drop, repS_len, rngL_len, List.length_range, List.length_reverse]; done) | (simp only [List.length_map, List.length_append, List.length_cons, List.length_nil, List.length_take, List.length_drop, repS_len, rngL_len, List.length_range, List.length_reverse]; omega)) only [mVar_ev, mVarR_ev, getV_val, getR_val, getR_own, mC_ev, mOp_ev, mOpL_ev, mT_ev, asB_bl, mAnd_ev, mOr_ev, mNot_ev, mAndV_ev, mOrV_ev, mNotV_ev, mIf_ev, mNil_ev, mCons_ev, mTup_ev, mLst_ev, mCall_ev, mPn_ev, mPs_ev, asI_int, mSl_ev, mSlL_ev, asL_lst, asL_scr, asTp_tup, asSt_str, R_ite, mWalk_ev, mLe_ev, mNeg_ev, mSeq_ev, mSkip_ev, bind_nx, bind_rt, bind_rtL, bind_bk, bind_ct, bind_ex, bind_ite, lift_ok, lift_exc, lift_ite, mAsg_ev, mAsgL_ev, mDrop_ev, mRet_ev, mRetL_ev, mRetN_ev, mRetOwn_ev, getO_own, mIfS_ev, mSet1_ev, onO_own, onO_val, mAppend_ev, putO_own, mAsgG_ev, optSO_some, gSet_ev, gsNil_ev, gsCons_ev, obind_some, gTupM_1, gTupM_2, gTupM_3, gTupM_4, gTupM_5, gTupM_6, mFor_ev, retD_nx, retD_rt, retD_rtL, retD_ex, retD_ite, retLs_rtL, retLs_ex, retLs_ite, nth_zero, nth_succ, set_zero, set_succ, add_int, add_str, add_lst, lcat_lst, sub_int', neg_int', lt_int', le_int', gt_int', ge_int', mod_int', fdiv_int, mul_int', mul_str', isN_non, isN_int, notN_non, notN_int, eq_int', ne_int', eq_str', ne_str', eq_bl', ne_bl', len_str', len_lst, len_tup, len_scr, max_int, min_int, sl_str', sl_lst, sl_scr, lsl_lst, lsl_scr, ix_str', ix_lst, ix_tup', ix_scr, range1_ok, range2_ok, range3_ok, mMeth_ev, onStr_str, mComp_ev, mCh_ev, wipeE_nil, wipeE_cons, mYes_ev, int_int, int_bl, asW_lst, asW_tup, asW_scr, asW_str, lt_str', le_str', gt_str', ge_str', mRaise_ev, sum_ints, all_bls, any_bls, list_lst, list_tup, list_scr, sorted_ints', g_find_ev, g_find3_ev, g_find4_ev, g_rfind_ev, g_rfind4_ev, g_count_ev, g_count3_ev, g_count4_ev, g_startswith_ev, g_endswith_ev, Int.reduceToNat, List.getD_cons_zero, List.getD_cons_succ, List.length_map, List.length_reverse, Int.zero_mul, Int.mul_zero, Int.add_zero, Int.mul_one, nc0, nc1, nc2, nc3, nc4, nc5, nc6, nc7, nc8, nc9, nc10, nc11, nc12, nc13, List.cons_append, List.nil_append, decide_true, decide_false, not_false_eq_true, not_true_eq_false, mCallR_ev, retLE_rtL, retDE_rt, flatR_bl, flatR_int, flatR_str, flatR_non, flatR_exc, getOwn_own, mMut0_ev, mSetIx_ev, putIx_ok, rev_lst, lrep_ev, if_small, if_small', rngL_len, endS_nx, endS_rt, in_sign, notIn_sign, isN_str, notN_str, isN_tup, notN_tup, isi_int_int, isi_int_bool, isi_bl_bool, isi_bl_int, isi_str_str, isi_tup_tup, isi_lst_lst, isi_non_int, isi_non_tup, _root_.FL.R.ok_bind, _root_.FL.R.exc_bind, _root_.FL.R.stuck_bind, _root_.FL.R.pure_eq, List.append_nil, List.length_cons, List.length_nil, Nat.zero_add, Nat.reduceAdd, Nat.reduceLeDiff, Nat.reduceLT, and_self, and_true, true_and, nextK_nx, nextK_ct, nextK_bk, nextK_rt, nextK_rtL, nextK_ex, nextK_ite, decide_eq_true_eq, if_true, if_false, ite_true, ite_false, Bool.true_eq_false, Bool.false_eq_true, Bool.not_true, Bool.not_false, reduceIte, Bool.not_eq_true', decide_eq_false_iff_not, q']
    rw [this, bind_nx, second]
    rfl

/-! ### so many times -/
theorem stepD (m : Mv) : dspR "step" disp_step (mvD m) = .ok (mvP m) := by cases m <;> rfl
theorem e_step (m : Mv) (t : List Nat) (p : Nat) (lt : t.length ≤ 600) (hp : p ≤ t.length) : mvP m [mvD m, .str t, .int (p : Int)] = .ok (oD (stpM m t p)) := by
  cases m with
  | h => exact e_step_h t p lt hp _
  | l => exact e_step_l t p lt hp _
  | j => exact e_step_j t p lt hp _
  | k => exact e_step_k t p lt hp _
  | b => exact e_step_b t p lt hp _
  | e => exact e_step_e t p lt hp _
  | w => exact e_step_w t p lt hp _
  | v => exact e_step_v t p lt hp _
  | o => exact e_step_o t p lt hp _
  | f c => exact e_step_f t p lt hp c
  | t c => exact e_step_t t p lt hp c
  | z => exact e_step_z t p lt hp _
  | p => exact e_step_p t p lt hp _
theorem stpM_le (m : Mv) (t : List Nat) (p q : Nat) (hp : p ≤ t.length) (h : stpM m t p = some q) : q ≤ t.length := by
  have s1 := bgn_spec t p
  have s2 := enn_le hp
  cases m with
  | h => simp only [stpM] at h; split at h <;> cases h; omega
  | l => simp only [stpM] at h; split at h <;> cases h; omega
  | j =>
    simp only [stpM] at h
    split at h <;> cases h
    have := enn_le (t := t) (p := enn t p + 1) (by omega)
    omega
  | k => simp only [stpM] at h; split at h <;> cases h; omega
  | b => cases h; omega
  | e => cases h; omega
  | w => have := fstN_lt (show fstN (Bw t) (p + 1) (t.length - (p + 1)) = some q from h); omega
  | v => have := lstN_lt (show lstN (Bw t) 0 p = some q from h); omega
  | o => have := fstN_lt (show fstN (Ew t) (p + 1) (t.length - p) = some q from h); omega
  | f c => have := fstN_lt (show fstN (isC t c) (p + 1) (enn t p - (p + 1)) = some q from h); omega
  | t c => have := lstN_lt (show lstN (isC t c) (bgn t p) (p - bgn t p) = some q from h); omega
  | z => cases h; omega
  | p =>
    simp only [stpM] at h
    split at h
    · rename_i hc
      cases e : ptn t p with
      | none => rw [e] at h; cases h
      | some k =>
        rw [e] at h
        have hq : k + 1 = q := Option.some.inj h
        have := ptn_lt hc.1 e
        omega
    · split at h
      · rename_i hc; have := ptn_lt (by omega) h; omega
      · cases h
def onceM : Mv → Bool
  | .b => true
  | .e => true
  | .z => true
  | _ => false
def mkP (m : Mv) : List D → R D := if onceM m = true then p_Once__made else p_Move__made
theorem madeD (m : Mv) : dspR "made" disp_made (mvD m) = .ok (mkP m) := by cases m <;> rfl
def itr (m : Mv) (t : List Nat) : Nat → Option Nat → Option Nat
  | 0, x => x
  | n + 1, x => itr m t n (x.bind (stpM m t))
theorem itr_none (m : Mv) (t : List Nat) : ∀ n, itr m t n none = none
  | 0 => rfl
  | n + 1 => itr_none m t n
theorem itr_le (m : Mv) (t : List Nat) : ∀ (n : Nat) (x : Option Nat), (∀ q, x = some q → q ≤ t.length) → ∀ q, itr m t n x = some q → q ≤ t.length
  | 0, x, h, q, e => h q e
  | n + 1, x, h, q, e => itr_le m t n (x.bind (stpM m t)) (fun r hr => by
    cases x with
    | none => cases hr
    | some y => exact stpM_le m t y r (h y rfl) hr) q e
theorem e_turns (m : Mv) (t : List Nat) (lt : t.length ≤ 600) (N : D) : ∀ (n : Nat) (a : Nat) (x : Option Nat) (y : Slot), (∀ q, x = some q → q ≤ t.length) → ∃ y', forL (gSet 4) b_Move__made_l1 (rngL (a : Int) 1 n) [.val (mvD m), .val (.str t), .val (oD x), .val N, y] = .nx [.val (mvD m), .val (.str t), .val (oD (itr m t n x)), .val N, y']
  | 0, a, x, y, _ => ⟨y, rfl⟩
  | n + 1, a, x, y, h => by
    rw [rngL_up, forL_set]
    have st : b_Move__made_l1 [.val (mvD m), .val (.str t), .val (oD x), .val N, .val (.int (a : Int))] = .nx [.val (mvD m), .val (.str t), .val (oD (x.bind (stpM m t))), .val N, .val (.int (a : Int))] := by
      unfold b_Move__made_l1
      cases x with
      | none =>
        have : oD none = .non := rfl
        have e2 : oD ((none : Option Nat).bind (stpM m t)) = .non := rfl
        rw [e2, this]
        simp -implicitDefEqProofs (disch := first | omega | (simp only [List.length_map, List.length_append, List.length_cons, List.length_nil, List.length_take, List.length_drop, repS_len, rngL_len, List.length_range, List.length_reverse]; done) | (simp only [List.length_map, List.length_append, List.length_cons, List.length_nil, List.length_take, List.length_drop, repS_len, rngL_len, List.length_range, List.length_reverse]; omega)) only [mVar_ev, mVarR_ev, getV_val, getR_val, getR_own, mC_ev, mOp_ev, mOpL_ev, mT_ev, asB_bl, mAnd_ev, mOr_ev, mNot_ev, mAndV_ev, mOrV_ev, mNotV_ev, mIf_ev, mNil_ev, mCons_ev, mTup_ev, mLst_ev, mCall_ev, mPn_ev, mPs_ev, asI_int, mSl_ev, mSlL_ev, asL_lst, asL_scr, asTp_tup, asSt_str, R_ite, mWalk_ev, mLe_ev, mNeg_ev, mSeq_ev, mSkip_ev, bind_nx, bind_rt, bind_rtL, bind_bk, bind_ct, bind_ex, bind_ite, lift_ok, lift_exc, lift_ite, mAsg_ev, mAsgL_ev, mDrop_ev, mRet_ev, mRetL_ev, mRetN_ev, mRetOwn_ev, getO_own, mIfS_ev, mSet1_ev, onO_own, onO_val, mAppend_ev, putO_own, mAsgG_ev, optSO_some, gSet_ev, gsNil_ev, gsCons_ev, obind_some, gTupM_1, gTupM_2, gTupM_3, gTupM_4, gTupM_5, gTupM_6, mFor_ev, retD_nx, retD_rt, retD_rtL, retD_ex, retD_ite, retLs_rtL, retLs_ex, retLs_ite, nth_zero, nth_succ, set_zero, set_succ, add_int, add_str, add_lst, lcat_lst, sub_int', neg_int', lt_int', le_int', gt_int', ge_int', mod_int', fdiv_int, mul_int', mul_str', isN_non, isN_int, notN_non, notN_int, eq_int', ne_int', eq_str', ne_str', eq_bl', ne_bl', len_str', len_lst, len_tup, len_scr, max_int, min_int, sl_str', sl_lst, sl_scr, lsl_lst, lsl_scr, ix_str', ix_lst, ix_tup', ix_scr, range1_ok, range2_ok, range3_ok, mMeth_ev, onStr_str, mComp_ev, mCh_ev, wipeE_nil, wipeE_cons, mYes_ev, int_int, int_bl, asW_lst, asW_tup, asW_scr, asW_str, lt_str', le_str', gt_str', ge_str', mRaise_ev, sum_ints, all_bls, any_bls, list_lst, list_tup, list_scr, sorted_ints', g_find_ev, g_find3_ev, g_find4_ev, g_rfind_ev, g_rfind4_ev, g_count_ev, g_count3_ev, g_count4_ev, g_startswith_ev, g_endswith_ev, Int.reduceToNat, List.getD_cons_zero, List.getD_cons_succ, List.length_map, List.length_reverse, Int.zero_mul, Int.mul_zero, Int.add_zero, Int.mul_one, nc0, nc1, nc2, nc3, nc4, nc5, nc6, nc7, nc8, nc9, nc10, nc11, nc12, nc13, List.cons_append, List.nil_append, decide_true, decide_false, not_false_eq_true, not_true_eq_false, mCallR_ev, retLE_rtL, retDE_rt, flatR_bl, flatR_int, flatR_str, flatR_non, flatR_exc, getOwn_own, mMut0_ev, mSetIx_ev, putIx_ok, rev_lst, lrep_ev, if_small, if_small', rngL_len, endS_nx, endS_rt, in_sign, notIn_sign, isN_str, notN_str, isN_tup, notN_tup, isi_int_int, isi_int_bool, isi_bl_bool, isi_bl_int, isi_str_str, isi_tup_tup, isi_lst_lst, isi_non_int, isi_non_tup, _root_.FL.R.ok_bind, _root_.FL.R.exc_bind, _root_.FL.R.stuck_bind, _root_.FL.R.pure_eq, List.append_nil, List.length_cons, List.length_nil, Nat.zero_add, Nat.reduceAdd, Nat.reduceLeDiff, Nat.reduceLT, and_self, and_true, true_and, nextK_nx, nextK_ct, nextK_bk, nextK_rt, nextK_rtL, nextK_ex, nextK_ite, decide_eq_true_eq, if_true, if_false, ite_true, ite_false, Bool.true_eq_false, Bool.false_eq_true, Bool.not_true, Bool.not_false, reduceIte, Bool.not_eq_true', decide_eq_false_iff_not]
      | some p =>
        have : oD (some p) = .int (p : Int) := rfl
        have e2 : ((some p : Option Nat).bind (stpM m t)) = stpM m t p := rfl
        rw [e2, this]
        simp -implicitDefEqProofs (disch := first | omega | (simp only [List.length_map, List.length_append, List.length_cons, List.length_nil, List.length_take, List.length_drop, repS_len, rngL_len, List.length_range, List.length_reverse]; done) | (simp only [List.length_map, List.length_append, List.length_cons, List.length_nil, List.length_take, List.length_drop, repS_len, rngL_len, List.length_range, List.length_reverse]; omega)) only [mVar_ev, mVarR_ev, getV_val, getR_val, getR_own, mC_ev, mOp_ev, mOpL_ev, mT_ev, asB_bl, mAnd_ev, mOr_ev, mNot_ev, mAndV_ev, mOrV_ev, mNotV_ev, mIf_ev, mNil_ev, mCons_ev, mTup_ev, mLst_ev, mCall_ev, mPn_ev, mPs_ev, asI_int, mSl_ev, mSlL_ev, asL_lst, asL_scr, asTp_tup, asSt_str, R_ite, mWalk_ev, mLe_ev, mNeg_ev, mSeq_ev, mSkip_ev, bind_nx, bind_rt, bind_rtL, bind_bk, bind_ct, bind_ex, bind_ite, lift_ok, lift_exc, lift_ite, mAsg_ev, mAsgL_ev, mDrop_ev, mRet_ev, mRetL_ev, mRetN_ev, mRetOwn_ev, getO_own, mIfS_ev, mSet1_ev, onO_own, onO_val, mAppend_ev, putO_own, mAsgG_ev, optSO_some, gSet_ev, gsNil_ev, gsCons_ev, obind_some, gTupM_1, gTupM_2, gTupM_3, gTupM_4, gTupM_5, gTupM_6, mFor_ev, retD_nx, retD_rt, retD_rtL, retD_ex, retD_ite, retLs_rtL, retLs_ex, retLs_ite, nth_zero, nth_succ, set_zero, set_succ, add_int, add_str, add_lst, lcat_lst, sub_int', neg_int', lt_int', le_int', gt_int', ge_int', mod_int', fdiv_int, mul_int', mul_str', isN_non, isN_int, notN_non, notN_int, eq_int', ne_int', eq_str', ne_str', eq_bl', ne_bl', len_str', len_lst, len_tup, len_scr, max_int, min_int, sl_str', sl_lst, sl_scr, lsl_lst, lsl_scr, ix_str', ix_lst, ix_tup', ix_scr, range1_ok, range2_ok, range3_ok, mMeth_ev, onStr_str, mComp_ev, mCh_ev, wipeE_nil, wipeE_cons, mYes_ev, int_int, int_bl, asW_lst, asW_tup, asW_scr, asW_str, lt_str', le_str', gt_str', ge_str', mRaise_ev, sum_ints, all_bls, any_bls, list_lst, list_tup, list_scr, sorted_ints', g_find_ev, g_find3_ev, g_find4_ev, g_rfind_ev, g_rfind4_ev, g_count_ev, g_count3_ev, g_count4_ev, g_startswith_ev, g_endswith_ev, Int.reduceToNat, List.getD_cons_zero, List.getD_cons_succ, List.length_map, List.length_reverse, Int.zero_mul, Int.mul_zero, Int.add_zero, Int.mul_one, nc0, nc1, nc2, nc3, nc4, nc5, nc6, nc7, nc8, nc9, nc10, nc11, nc12, nc13, List.cons_append, List.nil_append, decide_true, decide_false, not_false_eq_true, not_true_eq_false, mCallR_ev, retLE_rtL, retDE_rt, flatR_bl, flatR_int, flatR_str, flatR_non, flatR_exc, getOwn_own, mMut0_ev, mSetIx_ev, putIx_ok, rev_lst, lrep_ev, if_small, if_small', rngL_len, endS_nx, endS_rt, in_sign, notIn_sign, isN_str, notN_str, isN_tup, notN_tup, isi_int_int, isi_int_bool, isi_bl_bool, isi_bl_int, isi_str_str, isi_tup_tup, isi_lst_lst, isi_non_int, isi_non_tup, _root_.FL.R.ok_bind, _root_.FL.R.exc_bind, _root_.FL.R.stuck_bind, _root_.FL.R.pure_eq, List.append_nil, List.length_cons, List.length_nil, Nat.zero_add, Nat.reduceAdd, Nat.reduceLeDiff, Nat.reduceLT, and_self, and_true, true_and, nextK_nx, nextK_ct, nextK_bk, nextK_rt, nextK_rtL, nextK_ex, nextK_ite, decide_eq_true_eq, if_true, if_false, ite_true, ite_false, Bool.true_eq_false, Bool.false_eq_true, Bool.not_true, Bool.not_false, reduceIte, Bool.not_eq_true', decide_eq_false_iff_not, mDsp_ev, stepD, e_step m t p lt (h p rfl)]
    show ∃ y', nextK (b_Move__made_l1 [.val (mvD m), .val (.str t), .val (oD x), .val N, .val (.int (a : Int))]) _ = _
    rw [st]
    exact e_turns m t lt N n (a + 1) (x.bind (stpM m t)) _ (fun r hr => by
      cases x with
      | none => cases hr
      | some y => exact stpM_le m t y r (h y rfl) hr)
def cnt1 : D → Nat
  | .int i => i.toNat
  | _ => 1
def resM (m : Mv) (t : List Nat) (p n : Nat) : Option Nat := if onceM m = true then stpM m t p else itr m t n (some p)
def okN (c : D) : Prop := c = .non ∨ ∃ n : Nat, c = .int (n : Int) ∧ n ≤ 100000
theorem e_made (m : Mv) (t : List Nat) (p : Nat) (c : D) (lt : t.length ≤ 600) (hp : p ≤ t.length) (hc : okN c) : mkP m [mvD m, .str t, .int (p : Int), c] = .ok (oD (resM m t p (cnt1 c))) := by
  unfold mkP resM
  by_cases q : onceM m = true
  · rw [if_pos q, if_pos q, u_Once__made]; unfold b_Once__made
    simp -implicitDefEqProofs (disch := first | omega | (simp only [List.length_map, List.length_append, List.length_cons, List.length_nil, List.length_take, List.length_drop, repS_len, rngL_len, List.length_range, List.length_reverse]; done) | (simp only [List.length_map, List.length_append, List.length_cons, List.length_nil, List.length_take, List.length_drop, repS_len, rngL_len, List.length_range, List.length_reverse]; omega)) only [mVar_ev, mVarR_ev, getV_val, getR_val, getR_own, mC_ev, mOp_ev, mOpL_ev, mT_ev, asB_bl, mAnd_ev, mOr_ev, mNot_ev, mAndV_ev, mOrV_ev, mNotV_ev, mIf_ev, mNil_ev, mCons_ev, mTup_ev, mLst_ev, mCall_ev, mPn_ev, mPs_ev, asI_int, mSl_ev, mSlL_ev, asL_lst, asL_scr, asTp_tup, asSt_str, R_ite, mWalk_ev, mLe_ev, mNeg_ev, mSeq_ev, mSkip_ev, bind_nx, bind_rt, bind_rtL, bind_bk, bind_ct, bind_ex, bind_ite, lift_ok, lift_exc, lift_ite, mAsg_ev, mAsgL_ev, mDrop_ev, mRet_ev, mRetL_ev, mRetN_ev, mRetOwn_ev, getO_own, mIfS_ev, mSet1_ev, onO_own, onO_val, mAppend_ev, putO_own, mAsgG_ev, optSO_some, gSet_ev, gsNil_ev, gsCons_ev, obind_some, gTupM_1, gTupM_2, gTupM_3, gTupM_4, gTupM_5, gTupM_6, mFor_ev, retD_nx, retD_rt, retD_rtL, retD_ex, retD_ite, retLs_rtL, retLs_ex, retLs_ite, nth_zero, nth_succ, set_zero, set_succ, add_int, add_str, add_lst, lcat_lst, sub_int', neg_int', lt_int', le_int', gt_int', ge_int', mod_int', fdiv_int, mul_int', mul_str', isN_non, isN_int, notN_non, notN_int, eq_int', ne_int', eq_str', ne_str', eq_bl', ne_bl', len_str', len_lst, len_tup, len_scr, max_int, min_int, sl_str', sl_lst, sl_scr, lsl_lst, lsl_scr, ix_str', ix_lst, ix_tup', ix_scr, range1_ok, range2_ok, range3_ok, mMeth_ev, onStr_str, mComp_ev, mCh_ev, wipeE_nil, wipeE_cons, mYes_ev, int_int, int_bl, asW_lst, asW_tup, asW_scr, asW_str, lt_str', le_str', gt_str', ge_str', mRaise_ev, sum_ints, all_bls, any_bls, list_lst, list_tup, list_scr, sorted_ints', g_find_ev, g_find3_ev, g_find4_ev, g_rfind_ev, g_rfind4_ev, g_count_ev, g_count3_ev, g_count4_ev, g_startswith_ev, g_endswith_ev, Int.reduceToNat, List.getD_cons_zero, List.getD_cons_succ, List.length_map, List.length_reverse, Int.zero_mul, Int.mul_zero, Int.add_zero, Int.mul_one, nc0, nc1, nc2, nc3, nc4, nc5, nc6, nc7, nc8, nc9, nc10, nc11, nc12, nc13, List.cons_append, List.nil_append, decide_true, decide_false, not_false_eq_true, not_true_eq_false, mCallR_ev, retLE_rtL, retDE_rt, flatR_bl, flatR_int, flatR_str, flatR_non, flatR_exc, getOwn_own, mMut0_ev, mSetIx_ev, putIx_ok, rev_lst, lrep_ev, if_small, if_small', rngL_len, endS_nx, endS_rt, in_sign, notIn_sign, isN_str, notN_str, isN_tup, notN_tup, isi_int_int, isi_int_bool, isi_bl_bool, isi_bl_int, isi_str_str, isi_tup_tup, isi_lst_lst, isi_non_int, isi_non_tup, _root_.FL.R.ok_bind, _root_.FL.R.exc_bind, _root_.FL.R.stuck_bind, _root_.FL.R.pure_eq, List.append_nil, List.length_cons, List.length_nil, Nat.zero_add, Nat.reduceAdd, Nat.reduceLeDiff, Nat.reduceLT, and_self, and_true, true_and, nextK_nx, nextK_ct, nextK_bk, nextK_rt, nextK_rtL, nextK_ex, nextK_ite, decide_eq_true_eq, if_true, if_false, ite_true, ite_false, Bool.true_eq_false, Bool.false_eq_true, Bool.not_true, Bool.not_false, reduceIte, Bool.not_eq_true', decide_eq_false_iff_not, mDsp_ev, stepD, e_step m t p lt hp]
  · rw [if_neg q, if_neg q, u_Move__made]; unfold b_Move__made
    rcases hc with rfl | ⟨n, rfl, hn⟩
    · obtain ⟨y', e⟩ := e_turns m t lt (.int 1) 1 0 (some p) .no (fun q h => by cases h; exact hp)
      have e' : forL (gSet 4) b_Move__made_l1 (rngL 0 1 1) [.val (mvD m), .val (.str t), .val (.int (p : Int)), .val (.int 1), .no] = _ := e
      simp -implicitDefEqProofs (disch := first | omega | (simp only [List.length_map, List.length_append, List.length_cons, List.length_nil, List.length_take, List.length_drop, repS_len, rngL_len, List.length_range, List.length_reverse]; done) | (simp only [List.length_map, List.length_append, List.length_cons, List.length_nil, List.length_take, List.length_drop, repS_len, rngL_len, List.length_range, List.length_reverse]; omega)) only [mVar_ev, mVarR_ev, getV_val, getR_val, getR_own, mC_ev, mOp_ev, mOpL_ev, mT_ev, asB_bl, mAnd_ev, mOr_ev, mNot_ev, mAndV_ev, mOrV_ev, mNotV_ev, mIf_ev, mNil_ev, mCons_ev, mTup_ev, mLst_ev, mCall_ev, mPn_ev, mPs_ev, asI_int, mSl_ev, mSlL_ev, asL_lst, asL_scr, asTp_tup, asSt_str, R_ite, mWalk_ev, mLe_ev, mNeg_ev, mSeq_ev, mSkip_ev, bind_nx, bind_rt, bind_rtL, bind_bk, bind_ct, bind_ex, bind_ite, lift_ok, lift_exc, lift_ite, mAsg_ev, mAsgL_ev, mDrop_ev, mRet_ev, mRetL_ev, mRetN_ev, mRetOwn_ev, getO_own, mIfS_ev, mSet1_ev, onO_own, onO_val, mAppend_ev, putO_own, mAsgG_ev, optSO_some, gSet_ev, gsNil_ev, gsCons_ev, obind_some, gTupM_1, gTupM_2, gTupM_3, gTupM_4, gTupM_5, gTupM_6, mFor_ev, retD_nx, retD_rt, retD_rtL, retD_ex, retD_ite, retLs_rtL, retLs_ex, retLs_ite, nth_zero, nth_succ, set_zero, set_succ, add_int, add_str, add_lst, lcat_lst, sub_int', neg_int', lt_int', le_int', gt_int', ge_int', mod_int', fdiv_int, mul_int', mul_str', isN_non, isN_int, notN_non, notN_int, eq_int', ne_int', eq_str', ne_str', eq_bl', ne_bl', len_str', len_lst, len_tup, len_scr, max_int, min_int, sl_str', sl_lst, sl_scr, lsl_lst, lsl_scr, ix_str', ix_lst, ix_tup', ix_scr, range1_ok, range2_ok, range3_ok, mMeth_ev, onStr_str, mComp_ev, mCh_ev, wipeE_nil, wipeE_cons, mYes_ev, int_int, int_bl, asW_lst, asW_tup, asW_scr, asW_str, lt_str', le_str', gt_str', ge_str', mRaise_ev, sum_ints, all_bls, any_bls, list_lst, list_tup, list_scr, sorted_ints', g_find_ev, g_find3_ev, g_find4_ev, g_rfind_ev, g_rfind4_ev, g_count_ev, g_count3_ev, g_count4_ev, g_startswith_ev, g_endswith_ev, Int.reduceToNat, List.getD_cons_zero, List.getD_cons_succ, List.length_map, List.length_reverse, Int.zero_mul, Int.mul_zero, Int.add_zero, Int.mul_one, nc0, nc1, nc2, nc3, nc4, nc5, nc6, nc7, nc8, nc9, nc10, nc11, nc12, nc13, List.cons_append, List.nil_append, decide_true, decide_false, not_false_eq_true, not_true_eq_false, mCallR_ev, retLE_rtL, retDE_rt, flatR_bl, flatR_int, flatR_str, flatR_non, flatR_exc, getOwn_own, mMut0_ev, mSetIx_ev, putIx_ok, rev_lst, lrep_ev, if_small, if_small', rngL_len, endS_nx, endS_rt, in_sign, notIn_sign, isN_str, notN_str, isN_tup, notN_tup, isi_int_int, isi_int_bool, isi_bl_bool, isi_bl_int, isi_str_str, isi_tup_tup, isi_lst_lst, isi_non_int, isi_non_tup, _root_.FL.R.ok_bind, _root_.FL.R.exc_bind, _root_.FL.R.stuck_bind, _root_.FL.R.pure_eq, List.append_nil, List.length_cons, List.length_nil, Nat.zero_add, Nat.reduceAdd, Nat.reduceLeDiff, Nat.reduceLT, and_self, and_true, true_and, nextK_nx, nextK_ct, nextK_bk, nextK_rt, nextK_rtL, nextK_ex, nextK_ite, decide_eq_true_eq, if_true, if_false, ite_true, ite_false, Bool.true_eq_false, Bool.false_eq_true, Bool.not_true, Bool.not_false, reduceIte, Bool.not_eq_true', decide_eq_false_iff_not, e']
      rfl
    · obtain ⟨y', e⟩ := e_turns m t lt (.int (n : Int)) n 0 (some p) .no (fun q h => by cases h; exact hp)
      have e' : forL (gSet 4) b_Move__made_l1 (rngL 0 1 n) [.val (mvD m), .val (.str t), .val (.int (p : Int)), .val (.int (n : Int)), .no] = _ := e
      have cn : cnt1 (.int (n : Int)) = n := Int.toNat_natCast n
      simp -implicitDefEqProofs (disch := first | omega | (simp only [List.length_map, List.length_append, List.length_cons, List.length_nil, List.length_take, List.length_drop, repS_len, rngL_len, List.length_range, List.length_reverse]; done) | (simp only [List.length_map, List.length_append, List.length_cons, List.length_nil, List.length_take, List.length_drop, repS_len, rngL_len, List.length_range, List.length_reverse]; omega)) only [mVar_ev, mVarR_ev, getV_val, getR_val, getR_own, mC_ev, mOp_ev, mOpL_ev, mT_ev, asB_bl, mAnd_ev, mOr_ev, mNot_ev, mAndV_ev, mOrV_ev, mNotV_ev, mIf_ev, mNil_ev, mCons_ev, mTup_ev, mLst_ev, mCall_ev, mPn_ev, mPs_ev, asI_int, mSl_ev, mSlL_ev, asL_lst, asL_scr, asTp_tup, asSt_str, R_ite, mWalk_ev, mLe_ev, mNeg_ev, mSeq_ev, mSkip_ev, bind_nx, bind_rt, bind_rtL, bind_bk, bind_ct, bind_ex, bind_ite, lift_ok, lift_exc, lift_ite, mAsg_ev, mAsgL_ev, mDrop_ev, mRet_ev, mRetL_ev, mRetN_ev, mRetOwn_ev, getO_own, mIfS_ev, mSet1_ev, onO_own, onO_val, mAppend_ev, putO_own, mAsgG_ev, optSO_some, gSet_ev, gsNil_ev, gsCons_ev, obind_some, gTupM_1, gTupM_2, gTupM_3, gTupM_4, gTupM_5, gTupM_6, mFor_ev, retD_nx, retD_rt, retD_rtL, retD_ex, retD_ite, retLs_rtL, retLs_ex, retLs_ite, nth_zero, nth_succ, set_zero, set_succ, add_int, add_str, add_lst, lcat_lst, sub_int', neg_int', lt_int', le_int', gt_int', ge_int', mod_int', fdiv_int, mul_int', mul_str', isN_non, isN_int, notN_non, notN_int, eq_int', ne_int', eq_str', ne_str', eq_bl', ne_bl', len_str', len_lst, len_tup, len_scr, max_int, min_int, sl_str', sl_lst, sl_scr, lsl_lst, lsl_scr, ix_str', ix_lst, ix_tup', ix_scr, range1_ok, range2_ok, range3_ok, mMeth_ev, onStr_str, mComp_ev, mCh_ev, wipeE_nil, wipeE_cons, mYes_ev, int_int, int_bl, asW_lst, asW_tup, asW_scr, asW_str, lt_str', le_str', gt_str', ge_str', mRaise_ev, sum_ints, all_bls, any_bls, list_lst, list_tup, list_scr, sorted_ints', g_find_ev, g_find3_ev, g_find4_ev, g_rfind_ev, g_rfind4_ev, g_count_ev, g_count3_ev, g_count4_ev, g_startswith_ev, g_endswith_ev, Int.reduceToNat, List.getD_cons_zero, List.getD_cons_succ, List.length_map, List.length_reverse, Int.zero_mul, Int.mul_zero, Int.add_zero, Int.mul_one, nc0, nc1, nc2, nc3, nc4, nc5, nc6, nc7, nc8, nc9, nc10, nc11, nc12, nc13, List.cons_append, List.nil_append, decide_true, decide_false, not_false_eq_true, not_true_eq_false, mCallR_ev, retLE_rtL, retDE_rt, flatR_bl, flatR_int, flatR_str, flatR_non, flatR_exc, getOwn_own, mMut0_ev, mSetIx_ev, putIx_ok, rev_lst, lrep_ev, if_small, if_small', rngL_len, endS_nx, endS_rt, in_sign, notIn_sign, isN_str, notN_str, isN_tup, notN_tup, isi_int_int, isi_int_bool, isi_bl_bool, isi_bl_int, isi_str_str, isi_tup_tup, isi_lst_lst, isi_non_int, isi_non_tup, _root_.FL.R.ok_bind, _root_.FL.R.exc_bind, _root_.FL.R.stuck_bind, _root_.FL.R.pure_eq, List.append_nil, List.length_cons, List.length_nil, Nat.zero_add, Nat.reduceAdd, Nat.reduceLeDiff, Nat.reduceLT, and_self, and_true, true_and, nextK_nx, nextK_ct, nextK_bk, nextK_rt, nextK_rtL, nextK_ex, nextK_ite, decide_eq_true_eq, if_true, if_false, ite_true, ite_false, Bool.true_eq_false, Bool.false_eq_true, Bool.not_true, Bool.not_false, reduceIte, Bool.not_eq_true', decide_eq_false_iff_not, Int.toNat_natCast, e']
      rw [cn]
theorem e_move_of (m : Mv) (mk : D) : p_move_of [.str (mvK m), mk] = .ok (mvD m) := by
  have row : ∀ k : Nat, k ∈ [104, 108, 106, 107, 98, 101] → p_move_of [.str [k], mk] = p_row_move [.str [k]] := by
    intro k hk
    rw [u_move_of]; unfold b_move_of
    have hne : ∀ c ∈ [119, 118, 111, 102, 116, 122, 112, 109], ¬ k = c := by
      intro c hc e
      subst e
      revert k
      decide
    have hx : D.ix (.str [k]) (.int 0) = .ok (.str [k]) := rfl
    have n1 := hne 119 (by decide)
    have n2 := hne 118 (by decide)
    have n3 := hne 111 (by decide)
    have n4 := hne 102 (by decide)
    have n5 := hne 116 (by decide)
    have n6 := hne 122 (by decide)
    have n7 := hne 112 (by decide)
    have n8 := hne 109 (by decide)
    simp -implicitDefEqProofs (disch := first | omega | (simp only [List.length_map, List.length_append, List.length_cons, List.length_nil, List.length_take, List.length_drop, repS_len, rngL_len, List.length_range, List.length_reverse]; done) | (simp only [List.length_map, List.length_append, List.length_cons, List.length_nil, List.length_take, List.length_drop, repS_len, rngL_len, List.length_range, List.length_reverse]; omega)) only [mVar_ev, mVarR_ev, getV_val, getR_val, getR_own, mC_ev, mOp_ev, mOpL_ev, mT_ev, asB_bl, mAnd_ev, mOr_ev, mNot_ev, mAndV_ev, mOrV_ev, mNotV_ev, mIf_ev, mNil_ev, mCons_ev, mTup_ev, mLst_ev, mCall_ev, mPn_ev, mPs_ev, asI_int, mSl_ev, mSlL_ev, asL_lst, asL_scr, asTp_tup, asSt_str, R_ite, mWalk_ev, mLe_ev, mNeg_ev, mSeq_ev, mSkip_ev, bind_nx, bind_rt, bind_rtL, bind_bk, bind_ct, bind_ex, bind_ite, lift_ok, lift_exc, lift_ite, mAsg_ev, mAsgL_ev, mDrop_ev, mRet_ev, mRetL_ev, mRetN_ev, mRetOwn_ev, getO_own, mIfS_ev, mSet1_ev, onO_own, onO_val, mAppend_ev, putO_own, mAsgG_ev, optSO_some, gSet_ev, gsNil_ev, gsCons_ev, obind_some, gTupM_1, gTupM_2, gTupM_3, gTupM_4, gTupM_5, gTupM_6, mFor_ev, retD_nx, retD_rt, retD_rtL, retD_ex, retD_ite, retLs_rtL, retLs_ex, retLs_ite, nth_zero, nth_succ, set_zero, set_succ, add_int, add_str, add_lst, lcat_lst, sub_int', neg_int', lt_int', le_int', gt_int', ge_int', mod_int', fdiv_int, mul_int', mul_str', isN_non, isN_int, notN_non, notN_int, eq_int', ne_int', eq_str', ne_str', eq_bl', ne_bl', len_str', len_lst, len_tup, len_scr, max_int, min_int, sl_str', sl_lst, sl_scr, lsl_lst, lsl_scr, ix_str', ix_lst, ix_tup', ix_scr, range1_ok, range2_ok, range3_ok, mMeth_ev, onStr_str, mComp_ev, mCh_ev, wipeE_nil, wipeE_cons, mYes_ev, int_int, int_bl, asW_lst, asW_tup, asW_scr, asW_str, lt_str', le_str', gt_str', ge_str', mRaise_ev, sum_ints, all_bls, any_bls, list_lst, list_tup, list_scr, sorted_ints', g_find_ev, g_find3_ev, g_find4_ev, g_rfind_ev, g_rfind4_ev, g_count_ev, g_count3_ev, g_count4_ev, g_startswith_ev, g_endswith_ev, Int.reduceToNat, List.getD_cons_zero, List.getD_cons_succ, List.length_map, List.length_reverse, Int.zero_mul, Int.mul_zero, Int.add_zero, Int.mul_one, nc0, nc1, nc2, nc3, nc4, nc5, nc6, nc7, nc8, nc9, nc10, nc11, nc12, nc13, List.cons_append, List.nil_append, decide_true, decide_false, not_false_eq_true, not_true_eq_false, mCallR_ev, retLE_rtL, retDE_rt, flatR_bl, flatR_int, flatR_str, flatR_non, flatR_exc, getOwn_own, mMut0_ev, mSetIx_ev, putIx_ok, rev_lst, lrep_ev, if_small, if_small', rngL_len, endS_nx, endS_rt, in_sign, notIn_sign, isN_str, notN_str, isN_tup, notN_tup, isi_int_int, isi_int_bool, isi_bl_bool, isi_bl_int, isi_str_str, isi_tup_tup, isi_lst_lst, isi_non_int, isi_non_tup, _root_.FL.R.ok_bind, _root_.FL.R.exc_bind, _root_.FL.R.stuck_bind, _root_.FL.R.pure_eq, List.append_nil, List.length_cons, List.length_nil, Nat.zero_add, Nat.reduceAdd, Nat.reduceLeDiff, Nat.reduceLT, and_self, and_true, true_and, nextK_nx, nextK_ct, nextK_bk, nextK_rt, nextK_rtL, nextK_ex, nextK_ite, decide_eq_true_eq, if_true, if_false, ite_true, ite_false, Bool.true_eq_false, Bool.false_eq_true, Bool.not_true, Bool.not_false, reduceIte, Bool.not_eq_true', decide_eq_false_iff_not, hx, List.cons.injEq, and_true, ne_eq, n1, n2, n3, n4, n5, n6, n7, n8]
    cases p_row_move [.str [k]] <;> rfl
  cases m with
  | h => exact (row 104 (by decide)).trans rfl
  | l => exact (row 108 (by decide)).trans rfl
  | j => exact (row 106 (by decide)).trans rfl
  | k => exact (row 107 (by decide)).trans rfl
  | b => exact (row 98 (by decide)).trans rfl
  | e => exact (row 101 (by decide)).trans rfl
  | w => rfl
  | v => rfl
  | o => rfl
  | f c => rfl
  | t c => rfl
  | z => rfl
  | p => rfl
def okM (mk : D) : Prop := mk = .non ∨ ∃ kvs, mk = .dct kvs
theorem e_gone (m : Mv) (t : List Nat) (p : Nat) (c mk : D) (lt : t.length ≤ 600) (hp : p ≤ t.length) (hc : okN c) (hk : okM mk) : p_gone [.str (mvK m), .str t, .int (p : Int), c, mk] = .ok (oD (resM m t p (cnt1 c))) := by
  rw [u_gone]; unfold b_gone
  have em := e_made m t p c lt hp hc
  rcases hk with rfl | ⟨kvs, rfl⟩
  · simp -implicitDefEqProofs (disch := first | omega | (simp only [List.length_map, List.length_append, List.length_cons, List.length_nil, List.length_take, List.length_drop, repS_len, rngL_len, List.length_range, List.length_reverse]; done) | (simp only [List.length_map, List.length_append, List.length_cons, List.length_nil, List.length_take, List.length_drop, repS_len, rngL_len, List.length_range, List.length_reverse]; omega)) only [mVar_ev, mVarR_ev, getV_val, getR_val, getR_own, mC_ev, mOp_ev, mOpL_ev, mT_ev, asB_bl, mAnd_ev, mOr_ev, mNot_ev, mAndV_ev, mOrV_ev, mNotV_ev, mIf_ev, mNil_ev, mCons_ev, mTup_ev, mLst_ev, mCall_ev, mPn_ev, mPs_ev, asI_int, mSl_ev, mSlL_ev, asL_lst, asL_scr, asTp_tup, asSt_str, R_ite, mWalk_ev, mLe_ev, mNeg_ev, mSeq_ev, mSkip_ev, bind_nx, bind_rt, bind_rtL, bind_bk, bind_ct, bind_ex, bind_ite, lift_ok, lift_exc, lift_ite, mAsg_ev, mAsgL_ev, mDrop_ev, mRet_ev, mRetL_ev, mRetN_ev, mRetOwn_ev, getO_own, mIfS_ev, mSet1_ev, onO_own, onO_val, mAppend_ev, putO_own, mAsgG_ev, optSO_some, gSet_ev, gsNil_ev, gsCons_ev, obind_some, gTupM_1, gTupM_2, gTupM_3, gTupM_4, gTupM_5, gTupM_6, mFor_ev, retD_nx, retD_rt, retD_rtL, retD_ex, retD_ite, retLs_rtL, retLs_ex, retLs_ite, nth_zero, nth_succ, set_zero, set_succ, add_int, add_str, add_lst, lcat_lst, sub_int', neg_int', lt_int', le_int', gt_int', ge_int', mod_int', fdiv_int, mul_int', mul_str', isN_non, isN_int, notN_non, notN_int, eq_int', ne_int', eq_str', ne_str', eq_bl', ne_bl', len_str', len_lst, len_tup, len_scr, max_int, min_int, sl_str', sl_lst, sl_scr, lsl_lst, lsl_scr, ix_str', ix_lst, ix_tup', ix_scr, range1_ok, range2_ok, range3_ok, mMeth_ev, onStr_str, mComp_ev, mCh_ev, wipeE_nil, wipeE_cons, mYes_ev, int_int, int_bl, asW_lst, asW_tup, asW_scr, asW_str, lt_str', le_str', gt_str', ge_str', mRaise_ev, sum_ints, all_bls, any_bls, list_lst, list_tup, list_scr, sorted_ints', g_find_ev, g_find3_ev, g_find4_ev, g_rfind_ev, g_rfind4_ev, g_count_ev, g_count3_ev, g_count4_ev, g_startswith_ev, g_endswith_ev, Int.reduceToNat, List.getD_cons_zero, List.getD_cons_succ, List.length_map, List.length_reverse, Int.zero_mul, Int.mul_zero, Int.add_zero, Int.mul_one, nc0, nc1, nc2, nc3, nc4, nc5, nc6, nc7, nc8, nc9, nc10, nc11, nc12, nc13, List.cons_append, List.nil_append, decide_true, decide_false, not_false_eq_true, not_true_eq_false, mCallR_ev, retLE_rtL, retDE_rt, flatR_bl, flatR_int, flatR_str, flatR_non, flatR_exc, getOwn_own, mMut0_ev, mSetIx_ev, putIx_ok, rev_lst, lrep_ev, if_small, if_small', rngL_len, endS_nx, endS_rt, in_sign, notIn_sign, isN_str, notN_str, isN_tup, notN_tup, isi_int_int, isi_int_bool, isi_bl_bool, isi_bl_int, isi_str_str, isi_tup_tup, isi_lst_lst, isi_non_int, isi_non_tup, _root_.FL.R.ok_bind, _root_.FL.R.exc_bind, _root_.FL.R.stuck_bind, _root_.FL.R.pure_eq, List.append_nil, List.length_cons, List.length_nil, Nat.zero_add, Nat.reduceAdd, Nat.reduceLeDiff, Nat.reduceLT, and_self, and_true, true_and, nextK_nx, nextK_ct, nextK_bk, nextK_rt, nextK_rtL, nextK_ex, nextK_ite, decide_eq_true_eq, if_true, if_false, ite_true, ite_false, Bool.true_eq_false, Bool.false_eq_true, Bool.not_true, Bool.not_false, reduceIte, Bool.not_eq_true', decide_eq_false_iff_not, mDsp_ev, e_move_of, madeD, em]
  · have z : D.isN (.dct kvs) .non = .ok (.bl false) := rfl
    simp -implicitDefEqProofs (disch := first | omega | (simp only [List.length_map, List.length_append, List.length_cons, List.length_nil, List.length_take, List.length_drop, repS_len, rngL_len, List.length_range, List.length_reverse]; done) | (simp only [List.length_map, List.length_append, List.length_cons, List.length_nil, List.length_take, List.length_drop, repS_len, rngL_len, List.length_range, List.length_reverse]; omega)) only [mVar_ev, mVarR_ev, getV_val, getR_val, getR_own, mC_ev, mOp_ev, mOpL_ev, mT_ev, asB_bl, mAnd_ev, mOr_ev, mNot_ev, mAndV_ev, mOrV_ev, mNotV_ev, mIf_ev, mNil_ev, mCons_ev, mTup_ev, mLst_ev, mCall_ev, mPn_ev, mPs_ev, asI_int, mSl_ev, mSlL_ev, asL_lst, asL_scr, asTp_tup, asSt_str, R_ite, mWalk_ev, mLe_ev, mNeg_ev, mSeq_ev, mSkip_ev, bind_nx, bind_rt, bind_rtL, bind_bk, bind_ct, bind_ex, bind_ite, lift_ok, lift_exc, lift_ite, mAsg_ev, mAsgL_ev, mDrop_ev, mRet_ev, mRetL_ev, mRetN_ev, mRetOwn_ev, getO_own, mIfS_ev, mSet1_ev, onO_own, onO_val, mAppend_ev, putO_own, mAsgG_ev, optSO_some, gSet_ev, gsNil_ev, gsCons_ev, obind_some, gTupM_1, gTupM_2, gTupM_3, gTupM_4, gTupM_5, gTupM_6, mFor_ev, retD_nx, retD_rt, retD_rtL, retD_ex, retD_ite, retLs_rtL, retLs_ex, retLs_ite, nth_zero, nth_succ, set_zero, set_succ, add_int, add_str, add_lst, lcat_lst, sub_int', neg_int', lt_int', le_int', gt_int', ge_int', mod_int', fdiv_int, mul_int', mul_str', isN_non, isN_int, notN_non, notN_int, eq_int', ne_int', eq_str', ne_str', eq_bl', ne_bl', len_str', len_lst, len_tup, len_scr, max_int, min_int, sl_str', sl_lst, sl_scr, lsl_lst, lsl_scr, ix_str', ix_lst, ix_tup', ix_scr, range1_ok, range2_ok, range3_ok, mMeth_ev, onStr_str, mComp_ev, mCh_ev, wipeE_nil, wipeE_cons, mYes_ev, int_int, int_bl, asW_lst, asW_tup, asW_scr, asW_str, lt_str', le_str', gt_str', ge_str', mRaise_ev, sum_ints, all_bls, any_bls, list_lst, list_tup, list_scr, sorted_ints', g_find_ev, g_find3_ev, g_find4_ev, g_rfind_ev, g_rfind4_ev, g_count_ev, g_count3_ev, g_count4_ev, g_startswith_ev, g_endswith_ev, Int.reduceToNat, List.getD_cons_zero, List.getD_cons_succ, List.length_map, List.length_reverse, Int.zero_mul, Int.mul_zero, Int.add_zero, Int.mul_one, nc0, nc1, nc2, nc3, nc4, nc5, nc6, nc7, nc8, nc9, nc10, nc11, nc12, nc13, List.cons_append, List.nil_append, decide_true, decide_false, not_false_eq_true, not_true_eq_false, mCallR_ev, retLE_rtL, retDE_rt, flatR_bl, flatR_int, flatR_str, flatR_non, flatR_exc, getOwn_own, mMut0_ev, mSetIx_ev, putIx_ok, rev_lst, lrep_ev, if_small, if_small', rngL_len, endS_nx, endS_rt, in_sign, notIn_sign, isN_str, notN_str, isN_tup, notN_tup, isi_int_int, isi_int_bool, isi_bl_bool, isi_bl_int, isi_str_str, isi_tup_tup, isi_lst_lst, isi_non_int, isi_non_tup, _root_.FL.R.ok_bind, _root_.FL.R.exc_bind, _root_.FL.R.stuck_bind, _root_.FL.R.pure_eq, List.append_nil, List.length_cons, List.length_nil, Nat.zero_add, Nat.reduceAdd, Nat.reduceLeDiff, Nat.reduceLT, and_self, and_true, true_and, nextK_nx, nextK_ct, nextK_bk, nextK_rt, nextK_rtL, nextK_ex, nextK_ite, decide_eq_true_eq, if_true, if_false, ite_true, ite_false, Bool.true_eq_false, Bool.false_eq_true, Bool.not_true, Bool.not_false, reduceIte, Bool.not_eq_true', decide_eq_false_iff_not, z, mDsp_ev, e_move_of, madeD, em]

theorem e_same (r : Option Nat) : p__law_same [oD r, oD r] = .ok (.bl true) := by
  rw [u__law_same]; unfold b__law_same
  have ew : ∀ i : Int, p__law_whole [.int i] = .ok (.bl true) := fun i => by rw [u__law_whole]; unfold b__law_whole; simp -implicitDefEqProofs (disch := first | omega | (simp only [List.length_map, List.length_append, List.length_cons, List.length_nil, List.length_take, List.length_drop, repS_len, rngL_len, List.length_range, List.length_reverse]; done) | (simp only [List.length_map, List.length_append, List.length_cons, List.length_nil, List.length_take, List.length_drop, repS_len, rngL_len, List.length_range, List.length_reverse]; omega)) only [mVar_ev, mVarR_ev, getV_val, getR_val, getR_own, mC_ev, mOp_ev, mOpL_ev, mT_ev, asB_bl, mAnd_ev, mOr_ev, mNot_ev, mAndV_ev, mOrV_ev, mNotV_ev, mIf_ev, mNil_ev, mCons_ev, mTup_ev, mLst_ev, mCall_ev, mPn_ev, mPs_ev, asI_int, mSl_ev, mSlL_ev, asL_lst, asL_scr, asTp_tup, asSt_str, R_ite, mWalk_ev, mLe_ev, mNeg_ev, mSeq_ev, mSkip_ev, bind_nx, bind_rt, bind_rtL, bind_bk, bind_ct, bind_ex, bind_ite, lift_ok, lift_exc, lift_ite, mAsg_ev, mAsgL_ev, mDrop_ev, mRet_ev, mRetL_ev, mRetN_ev, mRetOwn_ev, getO_own, mIfS_ev, mSet1_ev, onO_own, onO_val, mAppend_ev, putO_own, mAsgG_ev, optSO_some, gSet_ev, gsNil_ev, gsCons_ev, obind_some, gTupM_1, gTupM_2, gTupM_3, gTupM_4, gTupM_5, gTupM_6, mFor_ev, retD_nx, retD_rt, retD_rtL, retD_ex, retD_ite, retLs_rtL, retLs_ex, retLs_ite, nth_zero, nth_succ, set_zero, set_succ, add_int, add_str, add_lst, lcat_lst, sub_int', neg_int', lt_int', le_int', gt_int', ge_int', mod_int', fdiv_int, mul_int', mul_str', isN_non, isN_int, notN_non, notN_int, eq_int', ne_int', eq_str', ne_str', eq_bl', ne_bl', len_str', len_lst, len_tup, len_scr, max_int, min_int, sl_str', sl_lst, sl_scr, lsl_lst, lsl_scr, ix_str', ix_lst, ix_tup', ix_scr, range1_ok, range2_ok, range3_ok, mMeth_ev, onStr_str, mComp_ev, mCh_ev, wipeE_nil, wipeE_cons, mYes_ev, int_int, int_bl, asW_lst, asW_tup, asW_scr, asW_str, lt_str', le_str', gt_str', ge_str', mRaise_ev, sum_ints, all_bls, any_bls, list_lst, list_tup, list_scr, sorted_ints', g_find_ev, g_find3_ev, g_find4_ev, g_rfind_ev, g_rfind4_ev, g_count_ev, g_count3_ev, g_count4_ev, g_startswith_ev, g_endswith_ev, Int.reduceToNat, List.getD_cons_zero, List.getD_cons_succ, List.length_map, List.length_reverse, Int.zero_mul, Int.mul_zero, Int.add_zero, Int.mul_one, nc0, nc1, nc2, nc3, nc4, nc5, nc6, nc7, nc8, nc9, nc10, nc11, nc12, nc13, List.cons_append, List.nil_append, decide_true, decide_false, not_false_eq_true, not_true_eq_false, mCallR_ev, retLE_rtL, retDE_rt, flatR_bl, flatR_int, flatR_str, flatR_non, flatR_exc, getOwn_own, mMut0_ev, mSetIx_ev, putIx_ok, rev_lst, lrep_ev, if_small, if_small', rngL_len, endS_nx, endS_rt, in_sign, notIn_sign, isN_str, notN_str, isN_tup, notN_tup, isi_int_int, isi_int_bool, isi_bl_bool, isi_bl_int, isi_str_str, isi_tup_tup, isi_lst_lst, isi_non_int, isi_non_tup, _root_.FL.R.ok_bind, _root_.FL.R.exc_bind, _root_.FL.R.stuck_bind, _root_.FL.R.pure_eq, List.append_nil, List.length_cons, List.length_nil, Nat.zero_add, Nat.reduceAdd, Nat.reduceLeDiff, Nat.reduceLT, and_self, and_true, true_and, nextK_nx, nextK_ct, nextK_bk, nextK_rt, nextK_rtL, nextK_ex, nextK_ite, decide_eq_true_eq, if_true, if_false, ite_true, ite_false, Bool.true_eq_false, Bool.false_eq_true, Bool.not_true, Bool.not_false, reduceIte, Bool.not_eq_true', decide_eq_false_iff_not]
  cases r with
  | none => unfold oD; simp -implicitDefEqProofs (disch := first | omega | (simp only [List.length_map, List.length_append, List.length_cons, List.length_nil, List.length_take, List.length_drop, repS_len, rngL_len, List.length_range, List.length_reverse]; done) | (simp only [List.length_map, List.length_append, List.length_cons, List.length_nil, List.length_take, List.length_drop, repS_len, rngL_len, List.length_range, List.length_reverse]; omega)) only [mVar_ev, mVarR_ev, getV_val, getR_val, getR_own, mC_ev, mOp_ev, mOpL_ev, mT_ev, asB_bl, mAnd_ev, mOr_ev, mNot_ev, mAndV_ev, mOrV_ev, mNotV_ev, mIf_ev, mNil_ev, mCons_ev, mTup_ev, mLst_ev, mCall_ev, mPn_ev, mPs_ev, asI_int, mSl_ev, mSlL_ev, asL_lst, asL_scr, asTp_tup, asSt_str, R_ite, mWalk_ev, mLe_ev, mNeg_ev, mSeq_ev, mSkip_ev, bind_nx, bind_rt, bind_rtL, bind_bk, bind_ct, bind_ex, bind_ite, lift_ok, lift_exc, lift_ite, mAsg_ev, mAsgL_ev, mDrop_ev, mRet_ev, mRetL_ev, mRetN_ev, mRetOwn_ev, getO_own, mIfS_ev, mSet1_ev, onO_own, onO_val, mAppend_ev, putO_own, mAsgG_ev, optSO_some, gSet_ev, gsNil_ev, gsCons_ev, obind_some, gTupM_1, gTupM_2, gTupM_3, gTupM_4, gTupM_5, gTupM_6, mFor_ev, retD_nx, retD_rt, retD_rtL, retD_ex, retD_ite, retLs_rtL, retLs_ex, retLs_ite, nth_zero, nth_succ, set_zero, set_succ, add_int, add_str, add_lst, lcat_lst, sub_int', neg_int', lt_int', le_int', gt_int', ge_int', mod_int', fdiv_int, mul_int', mul_str', isN_non, isN_int, notN_non, notN_int, eq_int', ne_int', eq_str', ne_str', eq_bl', ne_bl', len_str', len_lst, len_tup, len_scr, max_int, min_int, sl_str', sl_lst, sl_scr, lsl_lst, lsl_scr, ix_str', ix_lst, ix_tup', ix_scr, range1_ok, range2_ok, range3_ok, mMeth_ev, onStr_str, mComp_ev, mCh_ev, wipeE_nil, wipeE_cons, mYes_ev, int_int, int_bl, asW_lst, asW_tup, asW_scr, asW_str, lt_str', le_str', gt_str', ge_str', mRaise_ev, sum_ints, all_bls, any_bls, list_lst, list_tup, list_scr, sorted_ints', g_find_ev, g_find3_ev, g_find4_ev, g_rfind_ev, g_rfind4_ev, g_count_ev, g_count3_ev, g_count4_ev, g_startswith_ev, g_endswith_ev, Int.reduceToNat, List.getD_cons_zero, List.getD_cons_succ, List.length_map, List.length_reverse, Int.zero_mul, Int.mul_zero, Int.add_zero, Int.mul_one, nc0, nc1, nc2, nc3, nc4, nc5, nc6, nc7, nc8, nc9, nc10, nc11, nc12, nc13, List.cons_append, List.nil_append, decide_true, decide_false, not_false_eq_true, not_true_eq_false, mCallR_ev, retLE_rtL, retDE_rt, flatR_bl, flatR_int, flatR_str, flatR_non, flatR_exc, getOwn_own, mMut0_ev, mSetIx_ev, putIx_ok, rev_lst, lrep_ev, if_small, if_small', rngL_len, endS_nx, endS_rt, in_sign, notIn_sign, isN_str, notN_str, isN_tup, notN_tup, isi_int_int, isi_int_bool, isi_bl_bool, isi_bl_int, isi_str_str, isi_tup_tup, isi_lst_lst, isi_non_int, isi_non_tup, _root_.FL.R.ok_bind, _root_.FL.R.exc_bind, _root_.FL.R.stuck_bind, _root_.FL.R.pure_eq, List.append_nil, List.length_cons, List.length_nil, Nat.zero_add, Nat.reduceAdd, Nat.reduceLeDiff, Nat.reduceLT, and_self, and_true, true_and, nextK_nx, nextK_ct, nextK_bk, nextK_rt, nextK_rtL, nextK_ex, nextK_ite, decide_eq_true_eq, if_true, if_false, ite_true, ite_false, Bool.true_eq_false, Bool.false_eq_true, Bool.not_true, Bool.not_false, reduceIte, Bool.not_eq_true', decide_eq_false_iff_not]
  | some k => unfold oD; simp -implicitDefEqProofs (disch := first | omega | (simp only [List.length_map, List.length_append, List.length_cons, List.length_nil, List.length_take, List.length_drop, repS_len, rngL_len, List.length_range, List.length_reverse]; done) | (simp only [List.length_map, List.length_append, List.length_cons, List.length_nil, List.length_take, List.length_drop, repS_len, rngL_len, List.length_range, List.length_reverse]; omega)) only [mVar_ev, mVarR_ev, getV_val, getR_val, getR_own, mC_ev, mOp_ev, mOpL_ev, mT_ev, asB_bl, mAnd_ev, mOr_ev, mNot_ev, mAndV_ev, mOrV_ev, mNotV_ev, mIf_ev, mNil_ev, mCons_ev, mTup_ev, mLst_ev, mCall_ev, mPn_ev, mPs_ev, asI_int, mSl_ev, mSlL_ev, asL_lst, asL_scr, asTp_tup, asSt_str, R_ite, mWalk_ev, mLe_ev, mNeg_ev, mSeq_ev, mSkip_ev, bind_nx, bind_rt, bind_rtL, bind_bk, bind_ct, bind_ex, bind_ite, lift_ok, lift_exc, lift_ite, mAsg_ev, mAsgL_ev, mDrop_ev, mRet_ev, mRetL_ev, mRetN_ev, mRetOwn_ev, getO_own, mIfS_ev, mSet1_ev, onO_own, onO_val, mAppend_ev, putO_own, mAsgG_ev, optSO_some, gSet_ev, gsNil_ev, gsCons_ev, obind_some, gTupM_1, gTupM_2, gTupM_3, gTupM_4, gTupM_5, gTupM_6, mFor_ev, retD_nx, retD_rt, retD_rtL, retD_ex, retD_ite, retLs_rtL, retLs_ex, retLs_ite, nth_zero, nth_succ, set_zero, set_succ, add_int, add_str, add_lst, lcat_lst, sub_int', neg_int', lt_int', le_int', gt_int', ge_int', mod_int', fdiv_int, mul_int', mul_str', isN_non, isN_int, notN_non, notN_int, eq_int', ne_int', eq_str', ne_str', eq_bl', ne_bl', len_str', len_lst, len_tup, len_scr, max_int, min_int, sl_str', sl_lst, sl_scr, lsl_lst, lsl_scr, ix_str', ix_lst, ix_tup', ix_scr, range1_ok, range2_ok, range3_ok, mMeth_ev, onStr_str, mComp_ev, mCh_ev, wipeE_nil, wipeE_cons, mYes_ev, int_int, int_bl, asW_lst, asW_tup, asW_scr, asW_str, lt_str', le_str', gt_str', ge_str', mRaise_ev, sum_ints, all_bls, any_bls, list_lst, list_tup, list_scr, sorted_ints', g_find_ev, g_find3_ev, g_find4_ev, g_rfind_ev, g_rfind4_ev, g_count_ev, g_count3_ev, g_count4_ev, g_startswith_ev, g_endswith_ev, Int.reduceToNat, List.getD_cons_zero, List.getD_cons_succ, List.length_map, List.length_reverse, Int.zero_mul, Int.mul_zero, Int.add_zero, Int.mul_one, nc0, nc1, nc2, nc3, nc4, nc5, nc6, nc7, nc8, nc9, nc10, nc11, nc12, nc13, List.cons_append, List.nil_append, decide_true, decide_false, not_false_eq_true, not_true_eq_false, mCallR_ev, retLE_rtL, retDE_rt, flatR_bl, flatR_int, flatR_str, flatR_non, flatR_exc, getOwn_own, mMut0_ev, mSetIx_ev, putIx_ok, rev_lst, lrep_ev, if_small, if_small', rngL_len, endS_nx, endS_rt, in_sign, notIn_sign, isN_str, notN_str, isN_tup, notN_tup, isi_int_int, isi_int_bool, isi_bl_bool, isi_bl_int, isi_str_str, isi_tup_tup, isi_lst_lst, isi_non_int, isi_non_tup, _root_.FL.R.ok_bind, _root_.FL.R.exc_bind, _root_.FL.R.stuck_bind, _root_.FL.R.pure_eq, List.append_nil, List.length_cons, List.length_nil, Nat.zero_add, Nat.reduceAdd, Nat.reduceLeDiff, Nat.reduceLT, and_self, and_true, true_and, nextK_nx, nextK_ct, nextK_bk, nextK_rt, nextK_rtL, nextK_ex, nextK_ite, decide_eq_true_eq, if_true, if_false, ite_true, ite_false, Bool.true_eq_false, Bool.false_eq_true, Bool.not_true, Bool.not_false, reduceIte, Bool.not_eq_true', decide_eq_false_iff_not, ew]
def isJ : Mv → Bool
  | .j => true
  | .k => true
  | .p => true
  | _ => false
theorem in_once (m : Mv) : D.in_ (.str (mvK m)) (.tup [.str [98], .str [101], .str [122]]) = .ok (.bl (onceM m)) := by cases m <;> rfl
theorem in_j (m : Mv) : D.in_ (.str (mvK m)) (.tup [.str [106], .str [107], .str [112]]) = .ok (.bl (isJ m)) := by cases m <;> rfl
theorem resM_one (m : Mv) (t : List Nat) (p : Nat) : resM m t p (cnt1 .non) = stpM m t p := by
  unfold resM
  split <;> rfl
theorem e_keys (t : List Nat) (n : Int) (lt : t.length ≤ 600) : ∃ m : Mv, p__law_keys [.str t, .int n] = .ok (.str (mvK m)) := by
  rw [u__law_keys]; unfold b__law_keys
  have hk := mod_bd n (b := 13) (by omega)
  have sign : ∀ (k : Nat) (x3 : Slot), ∃ c : Nat, retD ((mSeq (mAsg 3 (mC (.str [32])))
    (mSeq (mIfS (mT (mOp D.gt (mCall gLen (mCons (mVar 0) mNil)) (mC (.int 0))))
      (mAsg 3 (mOp D.ix (mVar 0) (mOp D.mod (mOp D.fdiv (mVar 1) (mC (.int 13))) (mCall gLen (mCons (mVar 0) mNil)))))
      mSkip)
    (mSeq (mIfS (mT (mOp D.eq (mVar 3) (mC (.str [10]))))
      (mAsg 3 (mC (.str [32])))
      mSkip)
    (mRet (mOp D.add (mVar 2) (mVar 3)))))) [.val (.str t), .val (.int n), .val (.str [k]), x3]) = .ok (.str [k, c]) := by
    intro k x3
    simp -implicitDefEqProofs (disch := first | omega | (simp only [List.length_map, List.length_append, List.length_cons, List.length_nil, List.length_take, List.length_drop, repS_len, rngL_len, List.length_range, List.length_reverse]; done) | (simp only [List.length_map, List.length_append, List.length_cons, List.length_nil, List.length_take, List.length_drop, repS_len, rngL_len, List.length_range, List.length_reverse]; omega)) only [mVar_ev, mVarR_ev, getV_val, getR_val, getR_own, mC_ev, mOp_ev, mOpL_ev, mT_ev, asB_bl, mAnd_ev, mOr_ev, mNot_ev, mAndV_ev, mOrV_ev, mNotV_ev, mIf_ev, mNil_ev, mCons_ev, mTup_ev, mLst_ev, mCall_ev, mPn_ev, mPs_ev, asI_int, mSl_ev, mSlL_ev, asL_lst, asL_scr, asTp_tup, asSt_str, R_ite, mWalk_ev, mLe_ev, mNeg_ev, mSeq_ev, mSkip_ev, bind_rt, bind_rtL, bind_bk, bind_ct, bind_ex, bind_ite, lift_ok, lift_exc, lift_ite, mAsg_ev, mAsgL_ev, mDrop_ev, mRet_ev, mRetL_ev, mRetN_ev, mRetOwn_ev, getO_own, mIfS_ev, mSet1_ev, onO_own, onO_val, mAppend_ev, putO_own, mAsgG_ev, optSO_some, gSet_ev, gsNil_ev, gsCons_ev, obind_some, gTupM_1, gTupM_2, gTupM_3, gTupM_4, gTupM_5, gTupM_6, mFor_ev, retD_nx, retD_rt, retD_rtL, retD_ex, retD_ite, retLs_rtL, retLs_ex, retLs_ite, nth_zero, nth_succ, set_zero, set_succ, add_int, add_str, add_lst, lcat_lst, sub_int', neg_int', lt_int', le_int', gt_int', ge_int', mod_int', fdiv_int, mul_int', mul_str', isN_non, isN_int, notN_non, notN_int, eq_int', ne_int', eq_str', ne_str', eq_bl', ne_bl', len_str', len_lst, len_tup, len_scr, max_int, min_int, sl_str', sl_lst, sl_scr, lsl_lst, lsl_scr, ix_str', ix_lst, ix_tup', ix_scr, range1_ok, range2_ok, range3_ok, mMeth_ev, onStr_str, mComp_ev, mCh_ev, wipeE_nil, wipeE_cons, mYes_ev, int_int, int_bl, asW_lst, asW_tup, asW_scr, asW_str, lt_str', le_str', gt_str', ge_str', mRaise_ev, sum_ints, all_bls, any_bls, list_lst, list_tup, list_scr, sorted_ints', g_find_ev, g_find3_ev, g_find4_ev, g_rfind_ev, g_rfind4_ev, g_count_ev, g_count3_ev, g_count4_ev, g_startswith_ev, g_endswith_ev, Int.reduceToNat, List.getD_cons_zero, List.getD_cons_succ, List.length_map, List.length_reverse, Int.zero_mul, Int.mul_zero, Int.add_zero, Int.mul_one, nc0, nc1, nc2, nc3, nc4, nc5, nc6, nc7, nc8, nc9, nc10, nc11, nc12, nc13, List.cons_append, List.nil_append, decide_true, decide_false, not_false_eq_true, not_true_eq_false, mCallR_ev, retLE_rtL, retDE_rt, flatR_bl, flatR_int, flatR_str, flatR_non, flatR_exc, getOwn_own, mMut0_ev, mSetIx_ev, putIx_ok, rev_lst, lrep_ev, if_small, if_small', rngL_len, endS_nx, endS_rt, in_sign, notIn_sign, isN_str, notN_str, isN_tup, notN_tup, isi_int_int, isi_int_bool, isi_bl_bool, isi_bl_int, isi_str_str, isi_tup_tup, isi_lst_lst, isi_non_int, isi_non_tup, _root_.FL.R.ok_bind, _root_.FL.R.exc_bind, _root_.FL.R.stuck_bind, _root_.FL.R.pure_eq, List.append_nil, List.length_cons, List.length_nil, Nat.zero_add, Nat.reduceAdd, Nat.reduceLeDiff, Nat.reduceLT, and_self, and_true, true_and, nextK_nx, nextK_ct, nextK_bk, nextK_rt, nextK_rtL, nextK_ex, nextK_ite, decide_eq_true_eq, if_true, if_false, ite_true, ite_false, Bool.true_eq_false, Bool.false_eq_true, Bool.not_true, Bool.not_false, reduceIte, Bool.not_eq_true', decide_eq_false_iff_not]
    rw [bind_nx]
    by_cases q : 0 < t.length
    · have q' : (0 : Int) < t.length := by omega
      have h2 := mod_bd (n / 13) (b := (t.length : Int)) q'
      simp -implicitDefEqProofs (disch := first | omega | (simp only [List.length_map, List.length_append, List.length_cons, List.length_nil, List.length_take, List.length_drop, repS_len, rngL_len, List.length_range, List.length_reverse]; done) | (simp only [List.length_map, List.length_append, List.length_cons, List.length_nil, List.length_take, List.length_drop, repS_len, rngL_len, List.length_range, List.length_reverse]; omega)) only [mVar_ev, mVarR_ev, getV_val, getR_val, getR_own, mC_ev, mOp_ev, mOpL_ev, mT_ev, asB_bl, mAnd_ev, mOr_ev, mNot_ev, mAndV_ev, mOrV_ev, mNotV_ev, mIf_ev, mNil_ev, mCons_ev, mTup_ev, mLst_ev, mCall_ev, mPn_ev, mPs_ev, asI_int, mSl_ev, mSlL_ev, asL_lst, asL_scr, asTp_tup, asSt_str, R_ite, mWalk_ev, mLe_ev, mNeg_ev, mSeq_ev, mSkip_ev, bind_rt, bind_rtL, bind_bk, bind_ct, bind_ex, bind_ite, lift_ok, lift_exc, lift_ite, mAsg_ev, mAsgL_ev, mDrop_ev, mRet_ev, mRetL_ev, mRetN_ev, mRetOwn_ev, getO_own, mIfS_ev, mSet1_ev, onO_own, onO_val, mAppend_ev, putO_own, mAsgG_ev, optSO_some, gSet_ev, gsNil_ev, gsCons_ev, obind_some, gTupM_1, gTupM_2, gTupM_3, gTupM_4, gTupM_5, gTupM_6, mFor_ev, retD_nx, retD_rt, retD_rtL, retD_ex, retD_ite, retLs_rtL, retLs_ex, retLs_ite, nth_zero, nth_succ, set_zero, set_succ, add_int, add_str, add_lst, lcat_lst, sub_int', neg_int', lt_int', le_int', gt_int', ge_int', mod_int', fdiv_int, mul_int', mul_str', isN_non, isN_int, notN_non, notN_int, eq_int', ne_int', eq_str', ne_str', eq_bl', ne_bl', len_str', len_lst, len_tup, len_scr, max_int, min_int, sl_str', sl_lst, sl_scr, lsl_lst, lsl_scr, ix_str', ix_lst, ix_tup', ix_scr, range1_ok, range2_ok, range3_ok, mMeth_ev, onStr_str, mComp_ev, mCh_ev, wipeE_nil, wipeE_cons, mYes_ev, int_int, int_bl, asW_lst, asW_tup, asW_scr, asW_str, lt_str', le_str', gt_str', ge_str', mRaise_ev, sum_ints, all_bls, any_bls, list_lst, list_tup, list_scr, sorted_ints', g_find_ev, g_find3_ev, g_find4_ev, g_rfind_ev, g_rfind4_ev, g_count_ev, g_count3_ev, g_count4_ev, g_startswith_ev, g_endswith_ev, Int.reduceToNat, List.getD_cons_zero, List.getD_cons_succ, List.length_map, List.length_reverse, Int.zero_mul, Int.mul_zero, Int.add_zero, Int.mul_one, nc0, nc1, nc2, nc3, nc4, nc5, nc6, nc7, nc8, nc9, nc10, nc11, nc12, nc13, List.cons_append, List.nil_append, decide_true, decide_false, not_false_eq_true, not_true_eq_false, mCallR_ev, retLE_rtL, retDE_rt, flatR_bl, flatR_int, flatR_str, flatR_non, flatR_exc, getOwn_own, mMut0_ev, mSetIx_ev, putIx_ok, rev_lst, lrep_ev, if_small, if_small', rngL_len, endS_nx, endS_rt, in_sign, notIn_sign, isN_str, notN_str, isN_tup, notN_tup, isi_int_int, isi_int_bool, isi_bl_bool, isi_bl_int, isi_str_str, isi_tup_tup, isi_lst_lst, isi_non_int, isi_non_tup, _root_.FL.R.ok_bind, _root_.FL.R.exc_bind, _root_.FL.R.stuck_bind, _root_.FL.R.pure_eq, List.append_nil, List.length_cons, List.length_nil, Nat.zero_add, Nat.reduceAdd, Nat.reduceLeDiff, Nat.reduceLT, and_self, and_true, true_and, nextK_nx, nextK_ct, nextK_bk, nextK_rt, nextK_rtL, nextK_ex, nextK_ite, decide_eq_true_eq, if_true, if_false, ite_true, ite_false, Bool.true_eq_false, Bool.false_eq_true, Bool.not_true, Bool.not_false, reduceIte, Bool.not_eq_true', decide_eq_false_iff_not, q']
      rw [bind_nx]
      by_cases z : t.getD (n / 13 % (t.length : Int)).toNat 0 = 10
      · exact ⟨32, by simp -implicitDefEqProofs (disch := first | omega | (simp only [List.length_map, List.length_append, List.length_cons, List.length_nil, List.length_take, List.length_drop, repS_len, rngL_len, List.length_range, List.length_reverse]; done) | (simp only [List.length_map, List.length_append, List.length_cons, List.length_nil, List.length_take, List.length_drop, repS_len, rngL_len, List.length_range, List.length_reverse]; omega)) only [mVar_ev, mVarR_ev, getV_val, getR_val, getR_own, mC_ev, mOp_ev, mOpL_ev, mT_ev, asB_bl, mAnd_ev, mOr_ev, mNot_ev, mAndV_ev, mOrV_ev, mNotV_ev, mIf_ev, mNil_ev, mCons_ev, mTup_ev, mLst_ev, mCall_ev, mPn_ev, mPs_ev, asI_int, mSl_ev, mSlL_ev, asL_lst, asL_scr, asTp_tup, asSt_str, R_ite, mWalk_ev, mLe_ev, mNeg_ev, mSeq_ev, mSkip_ev, bind_nx, bind_rt, bind_rtL, bind_bk, bind_ct, bind_ex, bind_ite, lift_ok, lift_exc, lift_ite, mAsg_ev, mAsgL_ev, mDrop_ev, mRet_ev, mRetL_ev, mRetN_ev, mRetOwn_ev, getO_own, mIfS_ev, mSet1_ev, onO_own, onO_val, mAppend_ev, putO_own, mAsgG_ev, optSO_some, gSet_ev, gsNil_ev, gsCons_ev, obind_some, gTupM_1, gTupM_2, gTupM_3, gTupM_4, gTupM_5, gTupM_6, mFor_ev, retD_nx, retD_rt, retD_rtL, retD_ex, retD_ite, retLs_rtL, retLs_ex, retLs_ite, nth_zero, nth_succ, set_zero, set_succ, add_int, add_str, add_lst, lcat_lst, sub_int', neg_int', lt_int', le_int', gt_int', ge_int', mod_int', fdiv_int, mul_int', mul_str', isN_non, isN_int, notN_non, notN_int, eq_int', ne_int', eq_str', ne_str', eq_bl', ne_bl', len_str', len_lst, len_tup, len_scr, max_int, min_int, sl_str', sl_lst, sl_scr, lsl_lst, lsl_scr, ix_str', ix_lst, ix_tup', ix_scr, range1_ok, range2_ok, range3_ok, mMeth_ev, onStr_str, mComp_ev, mCh_ev, wipeE_nil, wipeE_cons, mYes_ev, int_int, int_bl, asW_lst, asW_tup, asW_scr, asW_str, lt_str', le_str', gt_str', ge_str', mRaise_ev, sum_ints, all_bls, any_bls, list_lst, list_tup, list_scr, sorted_ints', g_find_ev, g_find3_ev, g_find4_ev, g_rfind_ev, g_rfind4_ev, g_count_ev, g_count3_ev, g_count4_ev, g_startswith_ev, g_endswith_ev, Int.reduceToNat, List.getD_cons_zero, List.getD_cons_succ, List.length_map, List.length_reverse, Int.zero_mul, Int.mul_zero, Int.add_zero, Int.mul_one, nc0, nc1, nc2, nc3, nc4, nc5, nc6, nc7, nc8, nc9, nc10, nc11, nc12, nc13, List.cons_append, List.nil_append, decide_true, decide_false, not_false_eq_true, not_true_eq_false, mCallR_ev, retLE_rtL, retDE_rt, flatR_bl, flatR_int, flatR_str, flatR_non, flatR_exc, getOwn_own, mMut0_ev, mSetIx_ev, putIx_ok, rev_lst, lrep_ev, if_small, if_small', rngL_len, endS_nx, endS_rt, in_sign, notIn_sign, isN_str, notN_str, isN_tup, notN_tup, isi_int_int, isi_int_bool, isi_bl_bool, isi_bl_int, isi_str_str, isi_tup_tup, isi_lst_lst, isi_non_int, isi_non_tup, _root_.FL.R.ok_bind, _root_.FL.R.exc_bind, _root_.FL.R.stuck_bind, _root_.FL.R.pure_eq, List.append_nil, List.length_cons, List.length_nil, Nat.zero_add, Nat.reduceAdd, Nat.reduceLeDiff, Nat.reduceLT, and_self, and_true, true_and, nextK_nx, nextK_ct, nextK_bk, nextK_rt, nextK_rtL, nextK_ex, nextK_ite, decide_eq_true_eq, if_true, if_false, ite_true, ite_false, Bool.true_eq_false, Bool.false_eq_true, Bool.not_true, Bool.not_false, reduceIte, Bool.not_eq_true', decide_eq_false_iff_not, List.cons.injEq, and_true, ne_eq, eq_true z]⟩
      · exact ⟨t.getD (n / 13 % (t.length : Int)).toNat 0, by simp -implicitDefEqProofs (disch := first | omega | (simp only [List.length_map, List.length_append, List.length_cons, List.length_nil, List.length_take, List.length_drop, repS_len, rngL_len, List.length_range, List.length_reverse]; done) | (simp only [List.length_map, List.length_append, List.length_cons, List.length_nil, List.length_take, List.length_drop, repS_len, rngL_len, List.length_range, List.length_reverse]; omega)) only [mVar_ev, mVarR_ev, getV_val, getR_val, getR_own, mC_ev, mOp_ev, mOpL_ev, mT_ev, asB_bl, mAnd_ev, mOr_ev, mNot_ev, mAndV_ev, mOrV_ev, mNotV_ev, mIf_ev, mNil_ev, mCons_ev, mTup_ev, mLst_ev, mCall_ev, mPn_ev, mPs_ev, asI_int, mSl_ev, mSlL_ev, asL_lst, asL_scr, asTp_tup, asSt_str, R_ite, mWalk_ev, mLe_ev, mNeg_ev, mSeq_ev, mSkip_ev, bind_nx, bind_rt, bind_rtL, bind_bk, bind_ct, bind_ex, bind_ite, lift_ok, lift_exc, lift_ite, mAsg_ev, mAsgL_ev, mDrop_ev, mRet_ev, mRetL_ev, mRetN_ev, mRetOwn_ev, getO_own, mIfS_ev, mSet1_ev, onO_own, onO_val, mAppend_ev, putO_own, mAsgG_ev, optSO_some, gSet_ev, gsNil_ev, gsCons_ev, obind_some, gTupM_1, gTupM_2, gTupM_3, gTupM_4, gTupM_5, gTupM_6, mFor_ev, retD_nx, retD_rt, retD_rtL, retD_ex, retD_ite, retLs_rtL, retLs_ex, retLs_ite, nth_zero, nth_succ, set_zero, set_succ, add_int, add_str, add_lst, lcat_lst, sub_int', neg_int', lt_int', le_int', gt_int', ge_int', mod_int', fdiv_int, mul_int', mul_str', isN_non, isN_int, notN_non, notN_int, eq_int', ne_int', eq_str', ne_str', eq_bl', ne_bl', len_str', len_lst, len_tup, len_scr, max_int, min_int, sl_str', sl_lst, sl_scr, lsl_lst, lsl_scr, ix_str', ix_lst, ix_tup', ix_scr, range1_ok, range2_ok, range3_ok, mMeth_ev, onStr_str, mComp_ev, mCh_ev, wipeE_nil, wipeE_cons, mYes_ev, int_int, int_bl, asW_lst, asW_tup, asW_scr, asW_str, lt_str', le_str', gt_str', ge_str', mRaise_ev, sum_ints, all_bls, any_bls, list_lst, list_tup, list_scr, sorted_ints', g_find_ev, g_find3_ev, g_find4_ev, g_rfind_ev, g_rfind4_ev, g_count_ev, g_count3_ev, g_count4_ev, g_startswith_ev, g_endswith_ev, Int.reduceToNat, List.getD_cons_zero, List.getD_cons_succ, List.length_map, List.length_reverse, Int.zero_mul, Int.mul_zero, Int.add_zero, Int.mul_one, nc0, nc1, nc2, nc3, nc4, nc5, nc6, nc7, nc8, nc9, nc10, nc11, nc12, nc13, List.cons_append, List.nil_append, decide_true, decide_false, not_false_eq_true, not_true_eq_false, mCallR_ev, retLE_rtL, retDE_rt, flatR_bl, flatR_int, flatR_str, flatR_non, flatR_exc, getOwn_own, mMut0_ev, mSetIx_ev, putIx_ok, rev_lst, lrep_ev, if_small, if_small', rngL_len, endS_nx, endS_rt, in_sign, notIn_sign, isN_str, notN_str, isN_tup, notN_tup, isi_int_int, isi_int_bool, isi_bl_bool, isi_bl_int, isi_str_str, isi_tup_tup, isi_lst_lst, isi_non_int, isi_non_tup, _root_.FL.R.ok_bind, _root_.FL.R.exc_bind, _root_.FL.R.stuck_bind, _root_.FL.R.pure_eq, List.append_nil, List.length_cons, List.length_nil, Nat.zero_add, Nat.reduceAdd, Nat.reduceLeDiff, Nat.reduceLT, and_self, and_true, true_and, nextK_nx, nextK_ct, nextK_bk, nextK_rt, nextK_rtL, nextK_ex, nextK_ite, decide_eq_true_eq, if_true, if_false, ite_true, ite_false, Bool.true_eq_false, Bool.false_eq_true, Bool.not_true, Bool.not_false, reduceIte, Bool.not_eq_true', decide_eq_false_iff_not, List.cons.injEq, and_true, ne_eq, z]⟩
    · have q' : ¬ (0 : Int) < t.length := by omega
      have z32 : ¬ (32 : Nat) = 10 := by decide
      exact ⟨32, by simp -implicitDefEqProofs (disch := first | omega | (simp only [List.length_map, List.length_append, List.length_cons, List.length_nil, List.length_take, List.length_drop, repS_len, rngL_len, List.length_range, List.length_reverse]; done) | (simp only [List.length_map, List.length_append, List.length_cons, List.length_nil, List.length_take, List.length_drop, repS_len, rngL_len, List.length_range, List.length_reverse]; omega)) only [mVar_ev, mVarR_ev, getV_val, getR_val, getR_own, mC_ev, mOp_ev, mOpL_ev, mT_ev, asB_bl, mAnd_ev, mOr_ev, mNot_ev, mAndV_ev, mOrV_ev, mNotV_ev, mIf_ev, mNil_ev, mCons_ev, mTup_ev, mLst_ev, mCall_ev, mPn_ev, mPs_ev, asI_int, mSl_ev, mSlL_ev, asL_lst, asL_scr, asTp_tup, asSt_str, R_ite, mWalk_ev, mLe_ev, mNeg_ev, mSeq_ev, mSkip_ev, bind_nx, bind_rt, bind_rtL, bind_bk, bind_ct, bind_ex, bind_ite, lift_ok, lift_exc, lift_ite, mAsg_ev, mAsgL_ev, mDrop_ev, mRet_ev, mRetL_ev, mRetN_ev, mRetOwn_ev, getO_own, mIfS_ev, mSet1_ev, onO_own, onO_val, mAppend_ev, putO_own, mAsgG_ev, optSO_some, gSet_ev, gsNil_ev, gsCons_ev, obind_some, gTupM_1, gTupM_2, gTupM_3, gTupM_4, gTupM_5, gTupM_6, mFor_ev, retD_nx, retD_rt, retD_rtL, retD_ex, retD_ite, retLs_rtL, retLs_ex, retLs_ite, nth_zero, nth_succ, set_zero, set_succ, add_int, add_str, add_lst, lcat_lst, sub_int', neg_int', lt_int', le_int', gt_int', ge_int', mod_int', fdiv_int, mul_int', mul_str', isN_non, isN_int, notN_non, notN_int, eq_int', ne_int', eq_str', ne_str', eq_bl', ne_bl', len_str', len_lst, len_tup, len_scr, max_int, min_int, sl_str', sl_lst, sl_scr, lsl_lst, lsl_scr, ix_str', ix_lst, ix_tup', ix_scr, range1_ok, range2_ok, range3_ok, mMeth_ev, onStr_str, mComp_ev, mCh_ev, wipeE_nil, wipeE_cons, mYes_ev, int_int, int_bl, asW_lst, asW_tup, asW_scr, asW_str, lt_str', le_str', gt_str', ge_str', mRaise_ev, sum_ints, all_bls, any_bls, list_lst, list_tup, list_scr, sorted_ints', g_find_ev, g_find3_ev, g_find4_ev, g_rfind_ev, g_rfind4_ev, g_count_ev, g_count3_ev, g_count4_ev, g_startswith_ev, g_endswith_ev, Int.reduceToNat, List.getD_cons_zero, List.getD_cons_succ, List.length_map, List.length_reverse, Int.zero_mul, Int.mul_zero, Int.add_zero, Int.mul_one, nc0, nc1, nc2, nc3, nc4, nc5, nc6, nc7, nc8, nc9, nc10, nc11, nc12, nc13, List.cons_append, List.nil_append, decide_true, decide_false, not_false_eq_true, not_true_eq_false, mCallR_ev, retLE_rtL, retDE_rt, flatR_bl, flatR_int, flatR_str, flatR_non, flatR_exc, getOwn_own, mMut0_ev, mSetIx_ev, putIx_ok, rev_lst, lrep_ev, if_small, if_small', rngL_len, endS_nx, endS_rt, in_sign, notIn_sign, isN_str, notN_str, isN_tup, notN_tup, isi_int_int, isi_int_bool, isi_bl_bool, isi_bl_int, isi_str_str, isi_tup_tup, isi_lst_lst, isi_non_int, isi_non_tup, _root_.FL.R.ok_bind, _root_.FL.R.exc_bind, _root_.FL.R.stuck_bind, _root_.FL.R.pure_eq, List.append_nil, List.length_cons, List.length_nil, Nat.zero_add, Nat.reduceAdd, Nat.reduceLeDiff, Nat.reduceLT, and_self, and_true, true_and, nextK_nx, nextK_ct, nextK_bk, nextK_rt, nextK_rtL, nextK_ex, nextK_ite, decide_eq_true_eq, if_true, if_false, ite_true, ite_false, Bool.true_eq_false, Bool.false_eq_true, Bool.not_true, Bool.not_false, reduceIte, Bool.not_eq_true', decide_eq_false_iff_not, q', List.cons.injEq, and_true, ne_eq, z32]⟩
  have hx : ∀ k : Nat, k < 13 → ∃ c : Nat, D.ix (.str [104, 108, 106, 107, 119, 118, 111, 102, 116, 112, 98, 101, 122]) (.int (k : Int)) = .ok (.str [c]) ∧ ((c = 102 ∨ c = 116) ∨ (c ≠ 102 ∧ c ≠ 116 ∧ ∃ m : Mv, [c] = mvK m)) := by
    intro k hk
    rcases (by omega : k = 0 ∨ k = 1 ∨ k = 2 ∨ k = 3 ∨ k = 4 ∨ k = 5 ∨ k = 6 ∨ k = 7 ∨ k = 8 ∨ k = 9 ∨ k = 10 ∨ k = 11 ∨ k = 12) with rfl | rfl | rfl | rfl | rfl | rfl | rfl | rfl | rfl | rfl | rfl | rfl | rfl
    · exact ⟨104, rfl, .inr ⟨by decide, by decide, .h, rfl⟩⟩
    · exact ⟨108, rfl, .inr ⟨by decide, by decide, .l, rfl⟩⟩
    · exact ⟨106, rfl, .inr ⟨by decide, by decide, .j, rfl⟩⟩
    · exact ⟨107, rfl, .inr ⟨by decide, by decide, .k, rfl⟩⟩
    · exact ⟨119, rfl, .inr ⟨by decide, by decide, .w, rfl⟩⟩
    · exact ⟨118, rfl, .inr ⟨by decide, by decide, .v, rfl⟩⟩
    · exact ⟨111, rfl, .inr ⟨by decide, by decide, .o, rfl⟩⟩
    · exact ⟨102, rfl, .inl (.inl rfl)⟩
    · exact ⟨116, rfl, .inl (.inr rfl)⟩
    · exact ⟨112, rfl, .inr ⟨by decide, by decide, .p, rfl⟩⟩
    · exact ⟨98, rfl, .inr ⟨by decide, by decide, .b, rfl⟩⟩
    · exact ⟨101, rfl, .inr ⟨by decide, by decide, .e, rfl⟩⟩
    · exact ⟨122, rfl, .inr ⟨by decide, by decide, .z, rfl⟩⟩
  obtain ⟨c, e, hc⟩ := hx (n % 13).toNat (by omega)
  rw [Int.toNat_of_nonneg hk.1] at e
  rw [mSeq_ev]
  rcases hc with (rfl | rfl) | ⟨h1, h2, m, hm⟩
  · obtain ⟨c, ec⟩ := sign 102 .no
    refine ⟨.f c, ?_⟩
    simp -implicitDefEqProofs (disch := first | omega | (simp only [List.length_map, List.length_append, List.length_cons, List.length_nil, List.length_take, List.length_drop, repS_len, rngL_len, List.length_range, List.length_reverse]; done) | (simp only [List.length_map, List.length_append, List.length_cons, List.length_nil, List.length_take, List.length_drop, repS_len, rngL_len, List.length_range, List.length_reverse]; omega)) only [mVar_ev, mVarR_ev, getV_val, getR_val, getR_own, mC_ev, mOp_ev, mOpL_ev, mT_ev, asB_bl, mAnd_ev, mOr_ev, mNot_ev, mAndV_ev, mOrV_ev, mNotV_ev, mIf_ev, mNil_ev, mCons_ev, mTup_ev, mLst_ev, mCall_ev, mPn_ev, mPs_ev, asI_int, mSl_ev, mSlL_ev, asL_lst, asL_scr, asTp_tup, asSt_str, R_ite, mWalk_ev, mLe_ev, mNeg_ev, mSeq_ev, mSkip_ev, bind_rt, bind_rtL, bind_bk, bind_ct, bind_ex, bind_ite, lift_ok, lift_exc, lift_ite, mAsg_ev, mAsgL_ev, mDrop_ev, mRet_ev, mRetL_ev, mRetN_ev, mRetOwn_ev, getO_own, mIfS_ev, mSet1_ev, onO_own, onO_val, mAppend_ev, putO_own, mAsgG_ev, optSO_some, gSet_ev, gsNil_ev, gsCons_ev, obind_some, gTupM_1, gTupM_2, gTupM_3, gTupM_4, gTupM_5, gTupM_6, mFor_ev, retD_nx, retD_rt, retD_rtL, retD_ex, retD_ite, retLs_rtL, retLs_ex, retLs_ite, nth_zero, nth_succ, set_zero, set_succ, add_int, add_str, add_lst, lcat_lst, sub_int', neg_int', lt_int', le_int', gt_int', ge_int', mod_int', fdiv_int, mul_int', mul_str', isN_non, isN_int, notN_non, notN_int, eq_int', ne_int', eq_str', ne_str', eq_bl', ne_bl', len_str', len_lst, len_tup, len_scr, max_int, min_int, sl_str', sl_lst, sl_scr, lsl_lst, lsl_scr, ix_str', ix_lst, ix_tup', ix_scr, range1_ok, range2_ok, range3_ok, mMeth_ev, onStr_str, mComp_ev, mCh_ev, wipeE_nil, wipeE_cons, mYes_ev, int_int, int_bl, asW_lst, asW_tup, asW_scr, asW_str, lt_str', le_str', gt_str', ge_str', mRaise_ev, sum_ints, all_bls, any_bls, list_lst, list_tup, list_scr, sorted_ints', g_find_ev, g_find3_ev, g_find4_ev, g_rfind_ev, g_rfind4_ev, g_count_ev, g_count3_ev, g_count4_ev, g_startswith_ev, g_endswith_ev, Int.reduceToNat, List.getD_cons_zero, List.getD_cons_succ, List.length_map, List.length_reverse, Int.zero_mul, Int.mul_zero, Int.add_zero, Int.mul_one, nc0, nc1, nc2, nc3, nc4, nc5, nc6, nc7, nc8, nc9, nc10, nc11, nc12, nc13, List.cons_append, List.nil_append, decide_true, decide_false, not_false_eq_true, not_true_eq_false, mCallR_ev, retLE_rtL, retDE_rt, flatR_bl, flatR_int, flatR_str, flatR_non, flatR_exc, getOwn_own, mMut0_ev, mSetIx_ev, putIx_ok, rev_lst, lrep_ev, if_small, if_small', rngL_len, endS_nx, endS_rt, in_sign, notIn_sign, isN_str, notN_str, isN_tup, notN_tup, isi_int_int, isi_int_bool, isi_bl_bool, isi_bl_int, isi_str_str, isi_tup_tup, isi_lst_lst, isi_non_int, isi_non_tup, _root_.FL.R.ok_bind, _root_.FL.R.exc_bind, _root_.FL.R.stuck_bind, _root_.FL.R.pure_eq, List.append_nil, List.length_cons, List.length_nil, Nat.zero_add, Nat.reduceAdd, Nat.reduceLeDiff, Nat.reduceLT, and_self, and_true, true_and, nextK_nx, nextK_ct, nextK_bk, nextK_rt, nextK_rtL, nextK_ex, nextK_ite, decide_eq_true_eq, if_true, if_false, ite_true, ite_false, Bool.true_eq_false, Bool.false_eq_true, Bool.not_true, Bool.not_false, reduceIte, Bool.not_eq_true', decide_eq_false_iff_not, e]
    rw [bind_nx]
    simp -implicitDefEqProofs (disch := first | omega | (simp only [List.length_map, List.length_append, List.length_cons, List.length_nil, List.length_take, List.length_drop, repS_len, rngL_len, List.length_range, List.length_reverse]; done) | (simp only [List.length_map, List.length_append, List.length_cons, List.length_nil, List.length_take, List.length_drop, repS_len, rngL_len, List.length_range, List.length_reverse]; omega)) only [mVar_ev, mVarR_ev, getV_val, getR_val, getR_own, mC_ev, mOp_ev, mOpL_ev, mT_ev, asB_bl, mAnd_ev, mOr_ev, mNot_ev, mAndV_ev, mOrV_ev, mNotV_ev, mIf_ev, mNil_ev, mCons_ev, mTup_ev, mLst_ev, mCall_ev, mPn_ev, mPs_ev, asI_int, mSl_ev, mSlL_ev, asL_lst, asL_scr, asTp_tup, asSt_str, R_ite, mWalk_ev, mLe_ev, mNeg_ev, mSeq_ev, mSkip_ev, bind_rt, bind_rtL, bind_bk, bind_ct, bind_ex, bind_ite, lift_ok, lift_exc, lift_ite, mAsg_ev, mAsgL_ev, mDrop_ev, mRet_ev, mRetL_ev, mRetN_ev, mRetOwn_ev, getO_own, mIfS_ev, mSet1_ev, onO_own, onO_val, mAppend_ev, putO_own, mAsgG_ev, optSO_some, gSet_ev, gsNil_ev, gsCons_ev, obind_some, gTupM_1, gTupM_2, gTupM_3, gTupM_4, gTupM_5, gTupM_6, mFor_ev, retD_nx, retD_rt, retD_rtL, retD_ex, retD_ite, retLs_rtL, retLs_ex, retLs_ite, nth_zero, nth_succ, set_zero, set_succ, add_int, add_str, add_lst, lcat_lst, sub_int', neg_int', lt_int', le_int', gt_int', ge_int', mod_int', fdiv_int, mul_int', mul_str', isN_non, isN_int, notN_non, notN_int, eq_int', ne_int', eq_str', ne_str', eq_bl', ne_bl', len_str', len_lst, len_tup, len_scr, max_int, min_int, sl_str', sl_lst, sl_scr, lsl_lst, lsl_scr, ix_str', ix_lst, ix_tup', ix_scr, range1_ok, range2_ok, range3_ok, mMeth_ev, onStr_str, mComp_ev, mCh_ev, wipeE_nil, wipeE_cons, mYes_ev, int_int, int_bl, asW_lst, asW_tup, asW_scr, asW_str, lt_str', le_str', gt_str', ge_str', mRaise_ev, sum_ints, all_bls, any_bls, list_lst, list_tup, list_scr, sorted_ints', g_find_ev, g_find3_ev, g_find4_ev, g_rfind_ev, g_rfind4_ev, g_count_ev, g_count3_ev, g_count4_ev, g_startswith_ev, g_endswith_ev, Int.reduceToNat, List.getD_cons_zero, List.getD_cons_succ, List.length_map, List.length_reverse, Int.zero_mul, Int.mul_zero, Int.add_zero, Int.mul_one, nc0, nc1, nc2, nc3, nc4, nc5, nc6, nc7, nc8, nc9, nc10, nc11, nc12, nc13, List.cons_append, List.nil_append, decide_true, decide_false, not_false_eq_true, not_true_eq_false, mCallR_ev, retLE_rtL, retDE_rt, flatR_bl, flatR_int, flatR_str, flatR_non, flatR_exc, getOwn_own, mMut0_ev, mSetIx_ev, putIx_ok, rev_lst, lrep_ev, if_small, if_small', rngL_len, endS_nx, endS_rt, in_sign, notIn_sign, isN_str, notN_str, isN_tup, notN_tup, isi_int_int, isi_int_bool, isi_bl_bool, isi_bl_int, isi_str_str, isi_tup_tup, isi_lst_lst, isi_non_int, isi_non_tup, _root_.FL.R.ok_bind, _root_.FL.R.exc_bind, _root_.FL.R.stuck_bind, _root_.FL.R.pure_eq, List.append_nil, List.length_cons, List.length_nil, Nat.zero_add, Nat.reduceAdd, Nat.reduceLeDiff, Nat.reduceLT, and_self, and_true, true_and, nextK_nx, nextK_ct, nextK_bk, nextK_rt, nextK_rtL, nextK_ex, nextK_ite, decide_eq_true_eq, if_true, if_false, ite_true, ite_false, Bool.true_eq_false, Bool.false_eq_true, Bool.not_true, Bool.not_false, reduceIte, Bool.not_eq_true', decide_eq_false_iff_not]
    rw [bind_nx]
    exact ec
  · obtain ⟨c, ec⟩ := sign 116 .no
    have z : ¬ (116 : Nat) = 102 := by decide
    refine ⟨.t c, ?_⟩
    simp -implicitDefEqProofs (disch := first | omega | (simp only [List.length_map, List.length_append, List.length_cons, List.length_nil, List.length_take, List.length_drop, repS_len, rngL_len, List.length_range, List.length_reverse]; done) | (simp only [List.length_map, List.length_append, List.length_cons, List.length_nil, List.length_take, List.length_drop, repS_len, rngL_len, List.length_range, List.length_reverse]; omega)) only [mVar_ev, mVarR_ev, getV_val, getR_val, getR_own, mC_ev, mOp_ev, mOpL_ev, mT_ev, asB_bl, mAnd_ev, mOr_ev, mNot_ev, mAndV_ev, mOrV_ev, mNotV_ev, mIf_ev, mNil_ev, mCons_ev, mTup_ev, mLst_ev, mCall_ev, mPn_ev, mPs_ev, asI_int, mSl_ev, mSlL_ev, asL_lst, asL_scr, asTp_tup, asSt_str, R_ite, mWalk_ev, mLe_ev, mNeg_ev, mSeq_ev, mSkip_ev, bind_rt, bind_rtL, bind_bk, bind_ct, bind_ex, bind_ite, lift_ok, lift_exc, lift_ite, mAsg_ev, mAsgL_ev, mDrop_ev, mRet_ev, mRetL_ev, mRetN_ev, mRetOwn_ev, getO_own, mIfS_ev, mSet1_ev, onO_own, onO_val, mAppend_ev, putO_own, mAsgG_ev, optSO_some, gSet_ev, gsNil_ev, gsCons_ev, obind_some, gTupM_1, gTupM_2, gTupM_3, gTupM_4, gTupM_5, gTupM_6, mFor_ev, retD_nx, retD_rt, retD_rtL, retD_ex, retD_ite, retLs_rtL, retLs_ex, retLs_ite, nth_zero, nth_succ, set_zero, set_succ, add_int, add_str, add_lst, lcat_lst, sub_int', neg_int', lt_int', le_int', gt_int', ge_int', mod_int', fdiv_int, mul_int', mul_str', isN_non, isN_int, notN_non, notN_int, eq_int', ne_int', eq_str', ne_str', eq_bl', ne_bl', len_str', len_lst, len_tup, len_scr, max_int, min_int, sl_str', sl_lst, sl_scr, lsl_lst, lsl_scr, ix_str', ix_lst, ix_tup', ix_scr, range1_ok, range2_ok, range3_ok, mMeth_ev, onStr_str, mComp_ev, mCh_ev, wipeE_nil, wipeE_cons, mYes_ev, int_int, int_bl, asW_lst, asW_tup, asW_scr, asW_str, lt_str', le_str', gt_str', ge_str', mRaise_ev, sum_ints, all_bls, any_bls, list_lst, list_tup, list_scr, sorted_ints', g_find_ev, g_find3_ev, g_find4_ev, g_rfind_ev, g_rfind4_ev, g_count_ev, g_count3_ev, g_count4_ev, g_startswith_ev, g_endswith_ev, Int.reduceToNat, List.getD_cons_zero, List.getD_cons_succ, List.length_map, List.length_reverse, Int.zero_mul, Int.mul_zero, Int.add_zero, Int.mul_one, nc0, nc1, nc2, nc3, nc4, nc5, nc6, nc7, nc8, nc9, nc10, nc11, nc12, nc13, List.cons_append, List.nil_append, decide_true, decide_false, not_false_eq_true, not_true_eq_false, mCallR_ev, retLE_rtL, retDE_rt, flatR_bl, flatR_int, flatR_str, flatR_non, flatR_exc, getOwn_own, mMut0_ev, mSetIx_ev, putIx_ok, rev_lst, lrep_ev, if_small, if_small', rngL_len, endS_nx, endS_rt, in_sign, notIn_sign, isN_str, notN_str, isN_tup, notN_tup, isi_int_int, isi_int_bool, isi_bl_bool, isi_bl_int, isi_str_str, isi_tup_tup, isi_lst_lst, isi_non_int, isi_non_tup, _root_.FL.R.ok_bind, _root_.FL.R.exc_bind, _root_.FL.R.stuck_bind, _root_.FL.R.pure_eq, List.append_nil, List.length_cons, List.length_nil, Nat.zero_add, Nat.reduceAdd, Nat.reduceLeDiff, Nat.reduceLT, and_self, and_true, true_and, nextK_nx, nextK_ct, nextK_bk, nextK_rt, nextK_rtL, nextK_ex, nextK_ite, decide_eq_true_eq, if_true, if_false, ite_true, ite_false, Bool.true_eq_false, Bool.false_eq_true, Bool.not_true, Bool.not_false, reduceIte, Bool.not_eq_true', decide_eq_false_iff_not, e]
    rw [bind_nx]
    simp -implicitDefEqProofs (disch := first | omega | (simp only [List.length_map, List.length_append, List.length_cons, List.length_nil, List.length_take, List.length_drop, repS_len, rngL_len, List.length_range, List.length_reverse]; done) | (simp only [List.length_map, List.length_append, List.length_cons, List.length_nil, List.length_take, List.length_drop, repS_len, rngL_len, List.length_range, List.length_reverse]; omega)) only [mVar_ev, mVarR_ev, getV_val, getR_val, getR_own, mC_ev, mOp_ev, mOpL_ev, mT_ev, asB_bl, mAnd_ev, mOr_ev, mNot_ev, mAndV_ev, mOrV_ev, mNotV_ev, mIf_ev, mNil_ev, mCons_ev, mTup_ev, mLst_ev, mCall_ev, mPn_ev, mPs_ev, asI_int, mSl_ev, mSlL_ev, asL_lst, asL_scr, asTp_tup, asSt_str, R_ite, mWalk_ev, mLe_ev, mNeg_ev, mSeq_ev, mSkip_ev, bind_rt, bind_rtL, bind_bk, bind_ct, bind_ex, bind_ite, lift_ok, lift_exc, lift_ite, mAsg_ev, mAsgL_ev, mDrop_ev, mRet_ev, mRetL_ev, mRetN_ev, mRetOwn_ev, getO_own, mIfS_ev, mSet1_ev, onO_own, onO_val, mAppend_ev, putO_own, mAsgG_ev, optSO_some, gSet_ev, gsNil_ev, gsCons_ev, obind_some, gTupM_1, gTupM_2, gTupM_3, gTupM_4, gTupM_5, gTupM_6, mFor_ev, retD_nx, retD_rt, retD_rtL, retD_ex, retD_ite, retLs_rtL, retLs_ex, retLs_ite, nth_zero, nth_succ, set_zero, set_succ, add_int, add_str, add_lst, lcat_lst, sub_int', neg_int', lt_int', le_int', gt_int', ge_int', mod_int', fdiv_int, mul_int', mul_str', isN_non, isN_int, notN_non, notN_int, eq_int', ne_int', eq_str', ne_str', eq_bl', ne_bl', len_str', len_lst, len_tup, len_scr, max_int, min_int, sl_str', sl_lst, sl_scr, lsl_lst, lsl_scr, ix_str', ix_lst, ix_tup', ix_scr, range1_ok, range2_ok, range3_ok, mMeth_ev, onStr_str, mComp_ev, mCh_ev, wipeE_nil, wipeE_cons, mYes_ev, int_int, int_bl, asW_lst, asW_tup, asW_scr, asW_str, lt_str', le_str', gt_str', ge_str', mRaise_ev, sum_ints, all_bls, any_bls, list_lst, list_tup, list_scr, sorted_ints', g_find_ev, g_find3_ev, g_find4_ev, g_rfind_ev, g_rfind4_ev, g_count_ev, g_count3_ev, g_count4_ev, g_startswith_ev, g_endswith_ev, Int.reduceToNat, List.getD_cons_zero, List.getD_cons_succ, List.length_map, List.length_reverse, Int.zero_mul, Int.mul_zero, Int.add_zero, Int.mul_one, nc0, nc1, nc2, nc3, nc4, nc5, nc6, nc7, nc8, nc9, nc10, nc11, nc12, nc13, List.cons_append, List.nil_append, decide_true, decide_false, not_false_eq_true, not_true_eq_false, mCallR_ev, retLE_rtL, retDE_rt, flatR_bl, flatR_int, flatR_str, flatR_non, flatR_exc, getOwn_own, mMut0_ev, mSetIx_ev, putIx_ok, rev_lst, lrep_ev, if_small, if_small', rngL_len, endS_nx, endS_rt, in_sign, notIn_sign, isN_str, notN_str, isN_tup, notN_tup, isi_int_int, isi_int_bool, isi_bl_bool, isi_bl_int, isi_str_str, isi_tup_tup, isi_lst_lst, isi_non_int, isi_non_tup, _root_.FL.R.ok_bind, _root_.FL.R.exc_bind, _root_.FL.R.stuck_bind, _root_.FL.R.pure_eq, List.append_nil, List.length_cons, List.length_nil, Nat.zero_add, Nat.reduceAdd, Nat.reduceLeDiff, Nat.reduceLT, and_self, and_true, true_and, nextK_nx, nextK_ct, nextK_bk, nextK_rt, nextK_rtL, nextK_ex, nextK_ite, decide_eq_true_eq, if_true, if_false, ite_true, ite_false, Bool.true_eq_false, Bool.false_eq_true, Bool.not_true, Bool.not_false, reduceIte, Bool.not_eq_true', decide_eq_false_iff_not, List.cons.injEq, and_true, ne_eq, z]
    rw [bind_nx]
    exact ec
  · refine ⟨m, ?_⟩
    rw [← hm]
    simp -implicitDefEqProofs (disch := first | omega | (simp only [List.length_map, List.length_append, List.length_cons, List.length_nil, List.length_take, List.length_drop, repS_len, rngL_len, List.length_range, List.length_reverse]; done) | (simp only [List.length_map, List.length_append, List.length_cons, List.length_nil, List.length_take, List.length_drop, repS_len, rngL_len, List.length_range, List.length_reverse]; omega)) only [mVar_ev, mVarR_ev, getV_val, getR_val, getR_own, mC_ev, mOp_ev, mOpL_ev, mT_ev, asB_bl, mAnd_ev, mOr_ev, mNot_ev, mAndV_ev, mOrV_ev, mNotV_ev, mIf_ev, mNil_ev, mCons_ev, mTup_ev, mLst_ev, mCall_ev, mPn_ev, mPs_ev, asI_int, mSl_ev, mSlL_ev, asL_lst, asL_scr, asTp_tup, asSt_str, R_ite, mWalk_ev, mLe_ev, mNeg_ev, mSeq_ev, mSkip_ev, bind_rt, bind_rtL, bind_bk, bind_ct, bind_ex, bind_ite, lift_ok, lift_exc, lift_ite, mAsg_ev, mAsgL_ev, mDrop_ev, mRet_ev, mRetL_ev, mRetN_ev, mRetOwn_ev, getO_own, mIfS_ev, mSet1_ev, onO_own, onO_val, mAppend_ev, putO_own, mAsgG_ev, optSO_some, gSet_ev, gsNil_ev, gsCons_ev, obind_some, gTupM_1, gTupM_2, gTupM_3, gTupM_4, gTupM_5, gTupM_6, mFor_ev, retD_nx, retD_rt, retD_rtL, retD_ex, retD_ite, retLs_rtL, retLs_ex, retLs_ite, nth_zero, nth_succ, set_zero, set_succ, add_int, add_str, add_lst, lcat_lst, sub_int', neg_int', lt_int', le_int', gt_int', ge_int', mod_int', fdiv_int, mul_int', mul_str', isN_non, isN_int, notN_non, notN_int, eq_int', ne_int', eq_str', ne_str', eq_bl', ne_bl', len_str', len_lst, len_tup, len_scr, max_int, min_int, sl_str', sl_lst, sl_scr, lsl_lst, lsl_scr, ix_str', ix_lst, ix_tup', ix_scr, range1_ok, range2_ok, range3_ok, mMeth_ev, onStr_str, mComp_ev, mCh_ev, wipeE_nil, wipeE_cons, mYes_ev, int_int, int_bl, asW_lst, asW_tup, asW_scr, asW_str, lt_str', le_str', gt_str', ge_str', mRaise_ev, sum_ints, all_bls, any_bls, list_lst, list_tup, list_scr, sorted_ints', g_find_ev, g_find3_ev, g_find4_ev, g_rfind_ev, g_rfind4_ev, g_count_ev, g_count3_ev, g_count4_ev, g_startswith_ev, g_endswith_ev, Int.reduceToNat, List.getD_cons_zero, List.getD_cons_succ, List.length_map, List.length_reverse, Int.zero_mul, Int.mul_zero, Int.add_zero, Int.mul_one, nc0, nc1, nc2, nc3, nc4, nc5, nc6, nc7, nc8, nc9, nc10, nc11, nc12, nc13, List.cons_append, List.nil_append, decide_true, decide_false, not_false_eq_true, not_true_eq_false, mCallR_ev, retLE_rtL, retDE_rt, flatR_bl, flatR_int, flatR_str, flatR_non, flatR_exc, getOwn_own, mMut0_ev, mSetIx_ev, putIx_ok, rev_lst, lrep_ev, if_small, if_small', rngL_len, endS_nx, endS_rt, in_sign, notIn_sign, isN_str, notN_str, isN_tup, notN_tup, isi_int_int, isi_int_bool, isi_bl_bool, isi_bl_int, isi_str_str, isi_tup_tup, isi_lst_lst, isi_non_int, isi_non_tup, _root_.FL.R.ok_bind, _root_.FL.R.exc_bind, _root_.FL.R.stuck_bind, _root_.FL.R.pure_eq, List.append_nil, List.length_cons, List.length_nil, Nat.zero_add, Nat.reduceAdd, Nat.reduceLeDiff, Nat.reduceLT, and_self, and_true, true_and, nextK_nx, nextK_ct, nextK_bk, nextK_rt, nextK_rtL, nextK_ex, nextK_ite, decide_eq_true_eq, if_true, if_false, ite_true, ite_false, Bool.true_eq_false, Bool.false_eq_true, Bool.not_true, Bool.not_false, reduceIte, Bool.not_eq_true', decide_eq_false_iff_not, e]
    rw [bind_nx]
    simp -implicitDefEqProofs (disch := first | omega | (simp only [List.length_map, List.length_append, List.length_cons, List.length_nil, List.length_take, List.length_drop, repS_len, rngL_len, List.length_range, List.length_reverse]; done) | (simp only [List.length_map, List.length_append, List.length_cons, List.length_nil, List.length_take, List.length_drop, repS_len, rngL_len, List.length_range, List.length_reverse]; omega)) only [mVar_ev, mVarR_ev, getV_val, getR_val, getR_own, mC_ev, mOp_ev, mOpL_ev, mT_ev, asB_bl, mAnd_ev, mOr_ev, mNot_ev, mAndV_ev, mOrV_ev, mNotV_ev, mIf_ev, mNil_ev, mCons_ev, mTup_ev, mLst_ev, mCall_ev, mPn_ev, mPs_ev, asI_int, mSl_ev, mSlL_ev, asL_lst, asL_scr, asTp_tup, asSt_str, R_ite, mWalk_ev, mLe_ev, mNeg_ev, mSeq_ev, mSkip_ev, bind_nx, bind_rt, bind_rtL, bind_bk, bind_ct, bind_ex, bind_ite, lift_ok, lift_exc, lift_ite, mAsg_ev, mAsgL_ev, mDrop_ev, mRet_ev, mRetL_ev, mRetN_ev, mRetOwn_ev, getO_own, mIfS_ev, mSet1_ev, onO_own, onO_val, mAppend_ev, putO_own, mAsgG_ev, optSO_some, gSet_ev, gsNil_ev, gsCons_ev, obind_some, gTupM_1, gTupM_2, gTupM_3, gTupM_4, gTupM_5, gTupM_6, mFor_ev, retD_nx, retD_rt, retD_rtL, retD_ex, retD_ite, retLs_rtL, retLs_ex, retLs_ite, nth_zero, nth_succ, set_zero, set_succ, add_int, add_str, add_lst, lcat_lst, sub_int', neg_int', lt_int', le_int', gt_int', ge_int', mod_int', fdiv_int, mul_int', mul_str', isN_non, isN_int, notN_non, notN_int, eq_int', ne_int', eq_str', ne_str', eq_bl', ne_bl', len_str', len_lst, len_tup, len_scr, max_int, min_int, sl_str', sl_lst, sl_scr, lsl_lst, lsl_scr, ix_str', ix_lst, ix_tup', ix_scr, range1_ok, range2_ok, range3_ok, mMeth_ev, onStr_str, mComp_ev, mCh_ev, wipeE_nil, wipeE_cons, mYes_ev, int_int, int_bl, asW_lst, asW_tup, asW_scr, asW_str, lt_str', le_str', gt_str', ge_str', mRaise_ev, sum_ints, all_bls, any_bls, list_lst, list_tup, list_scr, sorted_ints', g_find_ev, g_find3_ev, g_find4_ev, g_rfind_ev, g_rfind4_ev, g_count_ev, g_count3_ev, g_count4_ev, g_startswith_ev, g_endswith_ev, Int.reduceToNat, List.getD_cons_zero, List.getD_cons_succ, List.length_map, List.length_reverse, Int.zero_mul, Int.mul_zero, Int.add_zero, Int.mul_one, nc0, nc1, nc2, nc3, nc4, nc5, nc6, nc7, nc8, nc9, nc10, nc11, nc12, nc13, List.cons_append, List.nil_append, decide_true, decide_false, not_false_eq_true, not_true_eq_false, mCallR_ev, retLE_rtL, retDE_rt, flatR_bl, flatR_int, flatR_str, flatR_non, flatR_exc, getOwn_own, mMut0_ev, mSetIx_ev, putIx_ok, rev_lst, lrep_ev, if_small, if_small', rngL_len, endS_nx, endS_rt, in_sign, notIn_sign, isN_str, notN_str, isN_tup, notN_tup, isi_int_int, isi_int_bool, isi_bl_bool, isi_bl_int, isi_str_str, isi_tup_tup, isi_lst_lst, isi_non_int, isi_non_tup, _root_.FL.R.ok_bind, _root_.FL.R.exc_bind, _root_.FL.R.stuck_bind, _root_.FL.R.pure_eq, List.append_nil, List.length_cons, List.length_nil, Nat.zero_add, Nat.reduceAdd, Nat.reduceLeDiff, Nat.reduceLT, and_self, and_true, true_and, nextK_nx, nextK_ct, nextK_bk, nextK_rt, nextK_rtL, nextK_ex, nextK_ite, decide_eq_true_eq, if_true, if_false, ite_true, ite_false, Bool.true_eq_false, Bool.false_eq_true, Bool.not_true, Bool.not_false, reduceIte, Bool.not_eq_true', decide_eq_false_iff_not, List.cons.injEq, and_true, ne_eq, h1, h2]
theorem e_many (m : Mv) (t : List Nat) (p n : Nat) (lt : t.length ≤ 600) (hp : p ≤ t.length) (hn : n ≤ 100000) : p__law_many [.str t, .str (mvK m), .int (p : Int), .int (n : Int)] = .ok (oD (resM m t p n)) := by
  have g1 : ∀ p : Nat, p ≤ t.length → p_gone [.str (mvK m), .str t, .int (p : Int), .non, .non] = .ok (oD (stpM m t p)) := fun p hp => by rw [e_gone m t p .non .non lt hp (.inl rfl) (.inl rfl), resM_one]
  rw [u__law_many]; unfold b__law_many resM
  cases h : onceM m with
  | true =>
    simp -implicitDefEqProofs (disch := first | omega | (simp only [List.length_map, List.length_append, List.length_cons, List.length_nil, List.length_take, List.length_drop, repS_len, rngL_len, List.length_range, List.length_reverse]; done) | (simp only [List.length_map, List.length_append, List.length_cons, List.length_nil, List.length_take, List.length_drop, repS_len, rngL_len, List.length_range, List.length_reverse]; omega)) only [mVar_ev, mVarR_ev, getV_val, getR_val, getR_own, mC_ev, mOp_ev, mOpL_ev, mT_ev, asB_bl, mAnd_ev, mOr_ev, mNot_ev, mAndV_ev, mOrV_ev, mNotV_ev, mIf_ev, mNil_ev, mCons_ev, mTup_ev, mLst_ev, mCall_ev, mPn_ev, mPs_ev, asI_int, mSl_ev, mSlL_ev, asL_lst, asL_scr, asTp_tup, asSt_str, R_ite, mWalk_ev, mLe_ev, mNeg_ev, mSeq_ev, mSkip_ev, bind_nx, bind_rt, bind_rtL, bind_bk, bind_ct, bind_ex, bind_ite, lift_ok, lift_exc, lift_ite, mAsg_ev, mAsgL_ev, mDrop_ev, mRet_ev, mRetL_ev, mRetN_ev, mRetOwn_ev, getO_own, mIfS_ev, mSet1_ev, onO_own, onO_val, mAppend_ev, putO_own, mAsgG_ev, optSO_some, gSet_ev, gsNil_ev, gsCons_ev, obind_some, gTupM_1, gTupM_2, gTupM_3, gTupM_4, gTupM_5, gTupM_6, mFor_ev, retD_nx, retD_rt, retD_rtL, retD_ex, retD_ite, retLs_rtL, retLs_ex, retLs_ite, nth_zero, nth_succ, set_zero, set_succ, add_int, add_str, add_lst, lcat_lst, sub_int', neg_int', lt_int', le_int', gt_int', ge_int', mod_int', fdiv_int, mul_int', mul_str', isN_non, isN_int, notN_non, notN_int, eq_int', ne_int', eq_str', ne_str', eq_bl', ne_bl', len_str', len_lst, len_tup, len_scr, max_int, min_int, sl_str', sl_lst, sl_scr, lsl_lst, lsl_scr, ix_str', ix_lst, ix_tup', ix_scr, range1_ok, range2_ok, range3_ok, mMeth_ev, onStr_str, mComp_ev, mCh_ev, wipeE_nil, wipeE_cons, mYes_ev, int_int, int_bl, asW_lst, asW_tup, asW_scr, asW_str, lt_str', le_str', gt_str', ge_str', mRaise_ev, sum_ints, all_bls, any_bls, list_lst, list_tup, list_scr, sorted_ints', g_find_ev, g_find3_ev, g_find4_ev, g_rfind_ev, g_rfind4_ev, g_count_ev, g_count3_ev, g_count4_ev, g_startswith_ev, g_endswith_ev, Int.reduceToNat, List.getD_cons_zero, List.getD_cons_succ, List.length_map, List.length_reverse, Int.zero_mul, Int.mul_zero, Int.add_zero, Int.mul_one, nc0, nc1, nc2, nc3, nc4, nc5, nc6, nc7, nc8, nc9, nc10, nc11, nc12, nc13, List.cons_append, List.nil_append, decide_true, decide_false, not_false_eq_true, not_true_eq_false, mCallR_ev, retLE_rtL, retDE_rt, flatR_bl, flatR_int, flatR_str, flatR_non, flatR_exc, getOwn_own, mMut0_ev, mSetIx_ev, putIx_ok, rev_lst, lrep_ev, if_small, if_small', rngL_len, endS_nx, endS_rt, in_sign, notIn_sign, isN_str, notN_str, isN_tup, notN_tup, isi_int_int, isi_int_bool, isi_bl_bool, isi_bl_int, isi_str_str, isi_tup_tup, isi_lst_lst, isi_non_int, isi_non_tup, _root_.FL.R.ok_bind, _root_.FL.R.exc_bind, _root_.FL.R.stuck_bind, _root_.FL.R.pure_eq, List.append_nil, List.length_cons, List.length_nil, Nat.zero_add, Nat.reduceAdd, Nat.reduceLeDiff, Nat.reduceLT, and_self, and_true, true_and, nextK_nx, nextK_ct, nextK_bk, nextK_rt, nextK_rtL, nextK_ex, nextK_ite, decide_eq_true_eq, if_true, if_false, ite_true, ite_false, Bool.true_eq_false, Bool.false_eq_true, Bool.not_true, Bool.not_false, reduceIte, Bool.not_eq_true', decide_eq_false_iff_not, in_once, h, g1 p hp]
  | false =>
    have turns : ∀ (n : Nat) (a : Nat) (x : Option Nat) (N : D) (y : Slot), (∀ q, x = some q → q ≤ t.length) → ∃ y', forL (gSet 4) b__law_many_l1 (rngL (a : Int) 1 n) [.val (.str t), .val (.str (mvK m)), .val (oD x), .val N, y] = .nx [.val (.str t), .val (.str (mvK m)), .val (oD (itr m t n x)), .val N, y'] := by
      intro n
      induction n with
      | zero => exact fun a x N y _ => ⟨y, rfl⟩
      | succ n ih =>
        intro a x N y hx
        rw [rngL_up, forL_set]
        have st : b__law_many_l1 [.val (.str t), .val (.str (mvK m)), .val (oD x), .val N, .val (.int (a : Int))] = .nx [.val (.str t), .val (.str (mvK m)), .val (oD (x.bind (stpM m t))), .val N, .val (.int (a : Int))] := by
          unfold b__law_many_l1
          cases x with
          | none =>
            have : oD none = .non := rfl
            have e2 : oD ((none : Option Nat).bind (stpM m t)) = .non := rfl
            rw [e2, this]
            simp -implicitDefEqProofs (disch := first | omega | (simp only [List.length_map, List.length_append, List.length_cons, List.length_nil, List.length_take, List.length_drop, repS_len, rngL_len, List.length_range, List.length_reverse]; done) | (simp only [List.length_map, List.length_append, List.length_cons, List.length_nil, List.length_take, List.length_drop, repS_len, rngL_len, List.length_range, List.length_reverse]; omega)) only [mVar_ev, mVarR_ev, getV_val, getR_val, getR_own, mC_ev, mOp_ev, mOpL_ev, mT_ev, asB_bl, mAnd_ev, mOr_ev, mNot_ev, mAndV_ev, mOrV_ev, mNotV_ev, mIf_ev, mNil_ev, mCons_ev, mTup_ev, mLst_ev, mCall_ev, mPn_ev, mPs_ev, asI_int, mSl_ev, mSlL_ev, asL_lst, asL_scr, asTp_tup, asSt_str, R_ite, mWalk_ev, mLe_ev, mNeg_ev, mSeq_ev, mSkip_ev, bind_nx, bind_rt, bind_rtL, bind_bk, bind_ct, bind_ex, bind_ite, lift_ok, lift_exc, lift_ite, mAsg_ev, mAsgL_ev, mDrop_ev, mRet_ev, mRetL_ev, mRetN_ev, mRetOwn_ev, getO_own, mIfS_ev, mSet1_ev, onO_own, onO_val, mAppend_ev, putO_own, mAsgG_ev, optSO_some, gSet_ev, gsNil_ev, gsCons_ev, obind_some, gTupM_1, gTupM_2, gTupM_3, gTupM_4, gTupM_5, gTupM_6, mFor_ev, retD_nx, retD_rt, retD_rtL, retD_ex, retD_ite, retLs_rtL, retLs_ex, retLs_ite, nth_zero, nth_succ, set_zero, set_succ, add_int, add_str, add_lst, lcat_lst, sub_int', neg_int', lt_int', le_int', gt_int', ge_int', mod_int', fdiv_int, mul_int', mul_str', isN_non, isN_int, notN_non, notN_int, eq_int', ne_int', eq_str', ne_str', eq_bl', ne_bl', len_str', len_lst, len_tup, len_scr, max_int, min_int, sl_str', sl_lst, sl_scr, lsl_lst, lsl_scr, ix_str', ix_lst, ix_tup', ix_scr, range1_ok, range2_ok, range3_ok, mMeth_ev, onStr_str, mComp_ev, mCh_ev, wipeE_nil, wipeE_cons, mYes_ev, int_int, int_bl, asW_lst, asW_tup, asW_scr, asW_str, lt_str', le_str', gt_str', ge_str', mRaise_ev, sum_ints, all_bls, any_bls, list_lst, list_tup, list_scr, sorted_ints', g_find_ev, g_find3_ev, g_find4_ev, g_rfind_ev, g_rfind4_ev, g_count_ev, g_count3_ev, g_count4_ev, g_startswith_ev, g_endswith_ev, Int.reduceToNat, List.getD_cons_zero, List.getD_cons_succ, List.length_map, List.length_reverse, Int.zero_mul, Int.mul_zero, Int.add_zero, Int.mul_one, nc0, nc1, nc2, nc3, nc4, nc5, nc6, nc7, nc8, nc9, nc10, nc11, nc12, nc13, List.cons_append, List.nil_append, decide_true, decide_false, not_false_eq_true, not_true_eq_false, mCallR_ev, retLE_rtL, retDE_rt, flatR_bl, flatR_int, flatR_str, flatR_non, flatR_exc, getOwn_own, mMut0_ev, mSetIx_ev, putIx_ok, rev_lst, lrep_ev, if_small, if_small', rngL_len, endS_nx, endS_rt, in_sign, notIn_sign, isN_str, notN_str, isN_tup, notN_tup, isi_int_int, isi_int_bool, isi_bl_bool, isi_bl_int, isi_str_str, isi_tup_tup, isi_lst_lst, isi_non_int, isi_non_tup, _root_.FL.R.ok_bind, _root_.FL.R.exc_bind, _root_.FL.R.stuck_bind, _root_.FL.R.pure_eq, List.append_nil, List.length_cons, List.length_nil, Nat.zero_add, Nat.reduceAdd, Nat.reduceLeDiff, Nat.reduceLT, and_self, and_true, true_and, nextK_nx, nextK_ct, nextK_bk, nextK_rt, nextK_rtL, nextK_ex, nextK_ite, decide_eq_true_eq, if_true, if_false, ite_true, ite_false, Bool.true_eq_false, Bool.false_eq_true, Bool.not_true, Bool.not_false, reduceIte, Bool.not_eq_true', decide_eq_false_iff_not]
          | some p =>
            have : oD (some p) = .int (p : Int) := rfl
            have e2 : ((some p : Option Nat).bind (stpM m t)) = stpM m t p := rfl
            rw [e2, this]
            simp -implicitDefEqProofs (disch := first | omega | (simp only [List.length_map, List.length_append, List.length_cons, List.length_nil, List.length_take, List.length_drop, repS_len, rngL_len, List.length_range, List.length_reverse]; done) | (simp only [List.length_map, List.length_append, List.length_cons, List.length_nil, List.length_take, List.length_drop, repS_len, rngL_len, List.length_range, List.length_reverse]; omega)) only [mVar_ev, mVarR_ev, getV_val, getR_val, getR_own, mC_ev, mOp_ev, mOpL_ev, mT_ev, asB_bl, mAnd_ev, mOr_ev, mNot_ev, mAndV_ev, mOrV_ev, mNotV_ev, mIf_ev, mNil_ev, mCons_ev, mTup_ev, mLst_ev, mCall_ev, mPn_ev, mPs_ev, asI_int, mSl_ev, mSlL_ev, asL_lst, asL_scr, asTp_tup, asSt_str, R_ite, mWalk_ev, mLe_ev, mNeg_ev, mSeq_ev, mSkip_ev, bind_nx, bind_rt, bind_rtL, bind_bk, bind_ct, bind_ex, bind_ite, lift_ok, lift_exc, lift_ite, mAsg_ev, mAsgL_ev, mDrop_ev, mRet_ev, mRetL_ev, mRetN_ev, mRetOwn_ev, getO_own, mIfS_ev, mSet1_ev, onO_own, onO_val, mAppend_ev, putO_own, mAsgG_ev, optSO_some, gSet_ev, gsNil_ev, gsCons_ev, obind_some, gTupM_1, gTupM_2, gTupM_3, gTupM_4, gTupM_5, gTupM_6, mFor_ev, retD_nx, retD_rt, retD_rtL, retD_ex, retD_ite, retLs_rtL, retLs_ex, retLs_ite, nth_zero, nth_succ, set_zero, set_succ, add_int, add_str, add_lst, lcat_lst, sub_int', neg_int', lt_int', le_int', gt_int', ge_int', mod_int', fdiv_int, mul_int', mul_str', isN_non, isN_int, notN_non, notN_int, eq_int', ne_int', eq_str', ne_str', eq_bl', ne_bl', len_str', len_lst, len_tup, len_scr, max_int, min_int, sl_str', sl_lst, sl_scr, lsl_lst, lsl_scr, ix_str', ix_lst, ix_tup', ix_scr, range1_ok, range2_ok, range3_ok, mMeth_ev, onStr_str, mComp_ev, mCh_ev, wipeE_nil, wipeE_cons, mYes_ev, int_int, int_bl, asW_lst, asW_tup, asW_scr, asW_str, lt_str', le_str', gt_str', ge_str', mRaise_ev, sum_ints, all_bls, any_bls, list_lst, list_tup, list_scr, sorted_ints', g_find_ev, g_find3_ev, g_find4_ev, g_rfind_ev, g_rfind4_ev, g_count_ev, g_count3_ev, g_count4_ev, g_startswith_ev, g_endswith_ev, Int.reduceToNat, List.getD_cons_zero, List.getD_cons_succ, List.length_map, List.length_reverse, Int.zero_mul, Int.mul_zero, Int.add_zero, Int.mul_one, nc0, nc1, nc2, nc3, nc4, nc5, nc6, nc7, nc8, nc9, nc10, nc11, nc12, nc13, List.cons_append, List.nil_append, decide_true, decide_false, not_false_eq_true, not_true_eq_false, mCallR_ev, retLE_rtL, retDE_rt, flatR_bl, flatR_int, flatR_str, flatR_non, flatR_exc, getOwn_own, mMut0_ev, mSetIx_ev, putIx_ok, rev_lst, lrep_ev, if_small, if_small', rngL_len, endS_nx, endS_rt, in_sign, notIn_sign, isN_str, notN_str, isN_tup, notN_tup, isi_int_int, isi_int_bool, isi_bl_bool, isi_bl_int, isi_str_str, isi_tup_tup, isi_lst_lst, isi_non_int, isi_non_tup, _root_.FL.R.ok_bind, _root_.FL.R.exc_bind, _root_.FL.R.stuck_bind, _root_.FL.R.pure_eq, List.append_nil, List.length_cons, List.length_nil, Nat.zero_add, Nat.reduceAdd, Nat.reduceLeDiff, Nat.reduceLT, and_self, and_true, true_and, nextK_nx, nextK_ct, nextK_bk, nextK_rt, nextK_rtL, nextK_ex, nextK_ite, decide_eq_true_eq, if_true, if_false, ite_true, ite_false, Bool.true_eq_false, Bool.false_eq_true, Bool.not_true, Bool.not_false, reduceIte, Bool.not_eq_true', decide_eq_false_iff_not, g1 p (hx p rfl)]
        show ∃ y', nextK (b__law_many_l1 [.val (.str t), .val (.str (mvK m)), .val (oD x), .val N, .val (.int (a : Int))]) _ = _
        rw [st]
        exact ih (a + 1) (x.bind (stpM m t)) N _ (fun r hr => by
          cases x with
          | none => cases hr
          | some y => exact stpM_le m t y r (hx y rfl) hr)
    obtain ⟨y', e⟩ := turns n 0 (some p) (.int (n : Int)) .no (fun q h => by cases h; exact hp)
    have e' : forL (gSet 4) b__law_many_l1 (rngL 0 1 n) [.val (.str t), .val (.str (mvK m)), .val (.int (p : Int)), .val (.int (n : Int)), .no] = _ := e
    simp -implicitDefEqProofs (disch := first | omega | (simp only [List.length_map, List.length_append, List.length_cons, List.length_nil, List.length_take, List.length_drop, repS_len, rngL_len, List.length_range, List.length_reverse]; done) | (simp only [List.length_map, List.length_append, List.length_cons, List.length_nil, List.length_take, List.length_drop, repS_len, rngL_len, List.length_range, List.length_reverse]; omega)) only [mVar_ev, mVarR_ev, getV_val, getR_val, getR_own, mC_ev, mOp_ev, mOpL_ev, mT_ev, asB_bl, mAnd_ev, mOr_ev, mNot_ev, mAndV_ev, mOrV_ev, mNotV_ev, mIf_ev, mNil_ev, mCons_ev, mTup_ev, mLst_ev, mCall_ev, mPn_ev, mPs_ev, asI_int, mSl_ev, mSlL_ev, asL_lst, asL_scr, asTp_tup, asSt_str, R_ite, mWalk_ev, mLe_ev, mNeg_ev, mSeq_ev, mSkip_ev, bind_nx, bind_rt, bind_rtL, bind_bk, bind_ct, bind_ex, bind_ite, lift_ok, lift_exc, lift_ite, mAsg_ev, mAsgL_ev, mDrop_ev, mRet_ev, mRetL_ev, mRetN_ev, mRetOwn_ev, getO_own, mIfS_ev, mSet1_ev, onO_own, onO_val, mAppend_ev, putO_own, mAsgG_ev, optSO_some, gSet_ev, gsNil_ev, gsCons_ev, obind_some, gTupM_1, gTupM_2, gTupM_3, gTupM_4, gTupM_5, gTupM_6, mFor_ev, retD_nx, retD_rt, retD_rtL, retD_ex, retD_ite, retLs_rtL, retLs_ex, retLs_ite, nth_zero, nth_succ, set_zero, set_succ, add_int, add_str, add_lst, lcat_lst, sub_int', neg_int', lt_int', le_int', gt_int', ge_int', mod_int', fdiv_int, mul_int', mul_str', isN_non, isN_int, notN_non, notN_int, eq_int', ne_int', eq_str', ne_str', eq_bl', ne_bl', len_str', len_lst, len_tup, len_scr, max_int, min_int, sl_str', sl_lst, sl_scr, lsl_lst, lsl_scr, ix_str', ix_lst, ix_tup', ix_scr, range1_ok, range2_ok, range3_ok, mMeth_ev, onStr_str, mComp_ev, mCh_ev, wipeE_nil, wipeE_cons, mYes_ev, int_int, int_bl, asW_lst, asW_tup, asW_scr, asW_str, lt_str', le_str', gt_str', ge_str', mRaise_ev, sum_ints, all_bls, any_bls, list_lst, list_tup, list_scr, sorted_ints', g_find_ev, g_find3_ev, g_find4_ev, g_rfind_ev, g_rfind4_ev, g_count_ev, g_count3_ev, g_count4_ev, g_startswith_ev, g_endswith_ev, Int.reduceToNat, List.getD_cons_zero, List.getD_cons_succ, List.length_map, List.length_reverse, Int.zero_mul, Int.mul_zero, Int.add_zero, Int.mul_one, nc0, nc1, nc2, nc3, nc4, nc5, nc6, nc7, nc8, nc9, nc10, nc11, nc12, nc13, List.cons_append, List.nil_append, decide_true, decide_false, not_false_eq_true, not_true_eq_false, mCallR_ev, retLE_rtL, retDE_rt, flatR_bl, flatR_int, flatR_str, flatR_non, flatR_exc, getOwn_own, mMut0_ev, mSetIx_ev, putIx_ok, rev_lst, lrep_ev, if_small, if_small', rngL_len, endS_nx, endS_rt, in_sign, notIn_sign, isN_str, notN_str, isN_tup, notN_tup, isi_int_int, isi_int_bool, isi_bl_bool, isi_bl_int, isi_str_str, isi_tup_tup, isi_lst_lst, isi_non_int, isi_non_tup, _root_.FL.R.ok_bind, _root_.FL.R.exc_bind, _root_.FL.R.stuck_bind, _root_.FL.R.pure_eq, List.append_nil, List.length_cons, List.length_nil, Nat.zero_add, Nat.reduceAdd, Nat.reduceLeDiff, Nat.reduceLT, and_self, and_true, true_and, nextK_nx, nextK_ct, nextK_bk, nextK_rt, nextK_rtL, nextK_ex, nextK_ite, decide_eq_true_eq, if_true, if_false, ite_true, ite_false, Bool.true_eq_false, Bool.false_eq_true, Bool.not_true, Bool.not_false, reduceIte, Bool.not_eq_true', decide_eq_false_iff_not, in_once, h, Int.toNat_natCast, e']
theorem e_byrows : p__law_by_rows [] = .ok (.bl true) := by rfl
theorem law_true (ns : List Int) (h : ns.length ≤ 63) (hb : ∀ k ∈ ns, k.natAbs < 2 ^ 1048576) : p_law [.scr ns] = .ok (.bl true) := by
  rw [u_law]
  unfold b_law
  obtain ⟨T, e1, lT⟩ := e_text ns h
  simp -implicitDefEqProofs (disch := first | omega | (simp only [List.length_map, List.length_append, List.length_cons, List.length_nil, List.length_take, List.length_drop, repS_len, rngL_len, List.length_range, List.length_reverse]; done) | (simp only [List.length_map, List.length_append, List.length_cons, List.length_nil, List.length_take, List.length_drop, repS_len, rngL_len, List.length_range, List.length_reverse]; omega)) only [mVar_ev, mVarR_ev, getV_val, getR_val, getR_own, mC_ev, mOp_ev, mOpL_ev, mT_ev, asB_bl, mAnd_ev, mOr_ev, mNot_ev, mAndV_ev, mOrV_ev, mNotV_ev, mIf_ev, mNil_ev, mCons_ev, mTup_ev, mLst_ev, mCall_ev, mPn_ev, mPs_ev, asI_int, mSl_ev, mSlL_ev, asL_lst, asL_scr, asTp_tup, asSt_str, R_ite, mWalk_ev, mLe_ev, mNeg_ev, mSeq_ev, mSkip_ev, bind_rt, bind_rtL, bind_bk, bind_ct, bind_ex, bind_ite, lift_ok, lift_exc, lift_ite, mAsg_ev, mAsgL_ev, mDrop_ev, mRet_ev, mRetL_ev, mRetN_ev, mRetOwn_ev, getO_own, mIfS_ev, mSet1_ev, onO_own, onO_val, mAppend_ev, putO_own, mAsgG_ev, optSO_some, gSet_ev, gsNil_ev, gsCons_ev, obind_some, gTupM_1, gTupM_2, gTupM_3, gTupM_4, gTupM_5, gTupM_6, mFor_ev, retD_nx, retD_rt, retD_rtL, retD_ex, retD_ite, retLs_rtL, retLs_ex, retLs_ite, nth_zero, nth_succ, set_zero, set_succ, add_int, add_str, add_lst, lcat_lst, sub_int', neg_int', lt_int', le_int', gt_int', ge_int', mod_int', fdiv_int, mul_int', mul_str', isN_non, isN_int, notN_non, notN_int, eq_int', ne_int', eq_str', ne_str', eq_bl', ne_bl', len_str', len_lst, len_tup, len_scr, max_int, min_int, sl_str', sl_lst, sl_scr, lsl_lst, lsl_scr, ix_str', ix_lst, ix_tup', ix_scr, range1_ok, range2_ok, range3_ok, mMeth_ev, onStr_str, mComp_ev, mCh_ev, wipeE_nil, wipeE_cons, mYes_ev, int_int, int_bl, asW_lst, asW_tup, asW_scr, asW_str, lt_str', le_str', gt_str', ge_str', mRaise_ev, sum_ints, all_bls, any_bls, list_lst, list_tup, list_scr, sorted_ints', g_find_ev, g_find3_ev, g_find4_ev, g_rfind_ev, g_rfind4_ev, g_count_ev, g_count3_ev, g_count4_ev, g_startswith_ev, g_endswith_ev, Int.reduceToNat, List.getD_cons_zero, List.getD_cons_succ, List.length_map, List.length_reverse, Int.zero_mul, Int.mul_zero, Int.add_zero, Int.mul_one, nc0, nc1, nc2, nc3, nc4, nc5, nc6, nc7, nc8, nc9, nc10, nc11, nc12, nc13, List.cons_append, List.nil_append, decide_true, decide_false, not_false_eq_true, not_true_eq_false, mCallR_ev, retLE_rtL, retDE_rt, flatR_bl, flatR_int, flatR_str, flatR_non, flatR_exc, getOwn_own, mMut0_ev, mSetIx_ev, putIx_ok, rev_lst, lrep_ev, if_small, if_small', rngL_len, endS_nx, endS_rt, in_sign, notIn_sign, isN_str, notN_str, isN_tup, notN_tup, isi_int_int, isi_int_bool, isi_bl_bool, isi_bl_int, isi_str_str, isi_tup_tup, isi_lst_lst, isi_non_int, isi_non_tup, _root_.FL.R.ok_bind, _root_.FL.R.exc_bind, _root_.FL.R.stuck_bind, _root_.FL.R.pure_eq, List.append_nil, List.length_cons, List.length_nil, Nat.zero_add, Nat.reduceAdd, Nat.reduceLeDiff, Nat.reduceLT, and_self, and_true, true_and, nextK_nx, nextK_ct, nextK_bk, nextK_rt, nextK_rtL, nextK_ex, nextK_ite, decide_eq_true_eq, if_true, if_false, ite_true, ite_false, Bool.true_eq_false, Bool.false_eq_true, Bool.not_true, Bool.not_false, reduceIte, Bool.not_eq_true', decide_eq_false_iff_not, e1]
  rw [bind_nx]
  have loop : ∀ (x2 : Slot) (cs : List Int) (k : Nat) (x4 x5 x6 x7 x8 x9 : Slot), 1 ≤ k → k ≤ 999 → (∀ k ∈ cs, k.natAbs < 2 ^ 1048576) → ∃ Γ', forL (gSet 4) b_law_l1 (cs.map D.int) [.val (.scr ns), .val (.str T), x2, .val (.int (k : Int)), x4, x5, x6, x7, x8, x9] = .nx Γ' := by
    intro x2 cs
    induction cs with
    | nil => exact fun k x4 x5 x6 x7 x8 x9 _ _ _ => ⟨_, rfl⟩
    | cons v cs ih =>
      intro k x4 x5 x6 x7 x8 x9 k1 k2 hc
      have hv := hc v (List.mem_cons_self ..)
      have hm := mul_cell v 48271 hv (by decide)
      have hm2 := mul_cell v 69621 hv (by decide)
      have hk := mod_bd (v * 48271 % 2147483647) (b := (T.length : Int) + 1) (by omega)
      obtain ⟨p, ep⟩ : ∃ p : Nat, v * 48271 % 2147483647 % ((T.length : Int) + 1) = p := ⟨(v * 48271 % 2147483647 % ((T.length : Int) + 1)).toNat, by omega⟩
      obtain ⟨m, em⟩ := e_keys T (v * 69621 % 2147483629) lT
      rw [List.map_cons, forL_set]
      generalize hK : forL (gSet 4) b_law_l1 (cs.map D.int) = K at *
      have hp : p ≤ T.length := by omega
      obtain ⟨k', hk1, hk2, ek⟩ : ∃ k' : Nat, 1 ≤ k' ∧ k' ≤ 999 ∧ ((if isJ m = true then (if (99 : Int) < k then (99 : Int) else k) else (k : Int)) = k') := by
        cases isJ m with
        | true =>
          by_cases z : (99 : Int) < k
          · exact ⟨99, by omega, by omega, by rw [if_pos rfl, if_pos z]; rfl⟩
          · exact ⟨k, k1, k2, by rw [if_pos rfl, if_neg z]⟩
        | false => exact ⟨k, k1, k2, rfl⟩
      have hr := mod_bd (v * 69621 % 2147483629 / 1009) (b := (k' : Int)) (by omega)
      obtain ⟨n, en⟩ : ∃ n : Nat, 1 + v * 69621 % 2147483629 / 1009 % (k' : Int) = n := ⟨(1 + v * 69621 % 2147483629 / 1009 % (k' : Int)).toNat, by omega⟩
      have d := e_many m T p n lT hp (by omega)
      have g1 := e_gone m T p (.int (n : Int)) .non lT hp (.inr ⟨n, rfl, by omega⟩) (.inl rfl)
      have g2 := e_gone m T p (.int (n : Int)) (.dct []) lT hp (.inr ⟨n, rfl, by omega⟩) (.inr ⟨[], rfl⟩)
      have g3 := e_gone m T p .non .non lT hp (.inl rfl) (.inl rfl)
      have cn : cnt1 (.int (n : Int)) = n := Int.toNat_natCast n
      rw [cn] at g1 g2
      have s1 := e_same (resM m T p n)
      have s2 := e_same (resM m T p (cnt1 .non))
      obtain ⟨Γ', ih'⟩ := ih 12 (.val (.int v)) (.val (.int (v * 69621 % 2147483629))) (.val (.int (p : Int))) (.val (.str (mvK m))) (.val (.int (n : Int))) (.val (oD (resM m T p n))) (by omega) (by omega) fun k hk => hc k (List.mem_cons_of_mem _ hk)
      refine ⟨Γ', ?_⟩
      unfold b_law_l1
      simp -implicitDefEqProofs (disch := first | omega | (simp only [List.length_map, List.length_append, List.length_cons, List.length_nil, List.length_take, List.length_drop, repS_len, rngL_len, List.length_range, List.length_reverse]; done) | (simp only [List.length_map, List.length_append, List.length_cons, List.length_nil, List.length_take, List.length_drop, repS_len, rngL_len, List.length_range, List.length_reverse]; omega)) only [mVar_ev, mVarR_ev, getV_val, getR_val, getR_own, mC_ev, mOp_ev, mOpL_ev, mT_ev, asB_bl, mAnd_ev, mOr_ev, mNot_ev, mAndV_ev, mOrV_ev, mNotV_ev, mIf_ev, mNil_ev, mCons_ev, mTup_ev, mLst_ev, mCall_ev, mPn_ev, mPs_ev, asI_int, mSl_ev, mSlL_ev, asL_lst, asL_scr, asTp_tup, asSt_str, R_ite, mWalk_ev, mLe_ev, mNeg_ev, mSeq_ev, mSkip_ev, bind_rt, bind_rtL, bind_bk, bind_ct, bind_ex, bind_ite, lift_ok, lift_exc, lift_ite, mAsg_ev, mAsgL_ev, mDrop_ev, mRet_ev, mRetL_ev, mRetN_ev, mRetOwn_ev, getO_own, mIfS_ev, mSet1_ev, onO_own, onO_val, mAppend_ev, putO_own, mAsgG_ev, optSO_some, gSet_ev, gsNil_ev, gsCons_ev, obind_some, gTupM_1, gTupM_2, gTupM_3, gTupM_4, gTupM_5, gTupM_6, mFor_ev, retD_nx, retD_rt, retD_rtL, retD_ex, retD_ite, retLs_rtL, retLs_ex, retLs_ite, nth_zero, nth_succ, set_zero, set_succ, add_int, add_str, add_lst, lcat_lst, sub_int', neg_int', lt_int', le_int', gt_int', ge_int', mod_int', fdiv_int, mul_int', mul_str', isN_non, isN_int, notN_non, notN_int, eq_int', ne_int', eq_str', ne_str', eq_bl', ne_bl', len_str', len_lst, len_tup, len_scr, max_int, min_int, sl_str', sl_lst, sl_scr, lsl_lst, lsl_scr, ix_str', ix_lst, ix_tup', ix_scr, range1_ok, range2_ok, range3_ok, mMeth_ev, onStr_str, mComp_ev, mCh_ev, wipeE_nil, wipeE_cons, mYes_ev, int_int, int_bl, asW_lst, asW_tup, asW_scr, asW_str, lt_str', le_str', gt_str', ge_str', mRaise_ev, sum_ints, all_bls, any_bls, list_lst, list_tup, list_scr, sorted_ints', g_find_ev, g_find3_ev, g_find4_ev, g_rfind_ev, g_rfind4_ev, g_count_ev, g_count3_ev, g_count4_ev, g_startswith_ev, g_endswith_ev, Int.reduceToNat, List.getD_cons_zero, List.getD_cons_succ, List.length_map, List.length_reverse, Int.zero_mul, Int.mul_zero, Int.add_zero, Int.mul_one, nc0, nc1, nc2, nc3, nc4, nc5, nc6, nc7, nc8, nc9, nc10, nc11, nc12, nc13, List.cons_append, List.nil_append, decide_true, decide_false, not_false_eq_true, not_true_eq_false, mCallR_ev, retLE_rtL, retDE_rt, flatR_bl, flatR_int, flatR_str, flatR_non, flatR_exc, getOwn_own, mMut0_ev, mSetIx_ev, putIx_ok, rev_lst, lrep_ev, if_small, if_small', rngL_len, endS_nx, endS_rt, in_sign, notIn_sign, isN_str, notN_str, isN_tup, notN_tup, isi_int_int, isi_int_bool, isi_bl_bool, isi_bl_int, isi_str_str, isi_tup_tup, isi_lst_lst, isi_non_int, isi_non_tup, _root_.FL.R.ok_bind, _root_.FL.R.exc_bind, _root_.FL.R.stuck_bind, _root_.FL.R.pure_eq, List.append_nil, List.length_cons, List.length_nil, Nat.zero_add, Nat.reduceAdd, Nat.reduceLeDiff, Nat.reduceLT, and_self, and_true, true_and, nextK_nx, nextK_ct, nextK_bk, nextK_rt, nextK_rtL, nextK_ex, nextK_ite, decide_eq_true_eq, if_true, if_false, ite_true, ite_false, Bool.true_eq_false, Bool.false_eq_true, Bool.not_true, Bool.not_false, reduceIte, Bool.not_eq_true', decide_eq_false_iff_not, hm2]
      rw [bind_nx]
      simp -implicitDefEqProofs (disch := first | omega | (simp only [List.length_map, List.length_append, List.length_cons, List.length_nil, List.length_take, List.length_drop, repS_len, rngL_len, List.length_range, List.length_reverse]; done) | (simp only [List.length_map, List.length_append, List.length_cons, List.length_nil, List.length_take, List.length_drop, repS_len, rngL_len, List.length_range, List.length_reverse]; omega)) only [mVar_ev, mVarR_ev, getV_val, getR_val, getR_own, mC_ev, mOp_ev, mOpL_ev, mT_ev, asB_bl, mAnd_ev, mOr_ev, mNot_ev, mAndV_ev, mOrV_ev, mNotV_ev, mIf_ev, mNil_ev, mCons_ev, mTup_ev, mLst_ev, mCall_ev, mPn_ev, mPs_ev, asI_int, mSl_ev, mSlL_ev, asL_lst, asL_scr, asTp_tup, asSt_str, R_ite, mWalk_ev, mLe_ev, mNeg_ev, mSeq_ev, mSkip_ev, bind_rt, bind_rtL, bind_bk, bind_ct, bind_ex, bind_ite, lift_ok, lift_exc, lift_ite, mAsg_ev, mAsgL_ev, mDrop_ev, mRet_ev, mRetL_ev, mRetN_ev, mRetOwn_ev, getO_own, mIfS_ev, mSet1_ev, onO_own, onO_val, mAppend_ev, putO_own, mAsgG_ev, optSO_some, gSet_ev, gsNil_ev, gsCons_ev, obind_some, gTupM_1, gTupM_2, gTupM_3, gTupM_4, gTupM_5, gTupM_6, mFor_ev, retD_nx, retD_rt, retD_rtL, retD_ex, retD_ite, retLs_rtL, retLs_ex, retLs_ite, nth_zero, nth_succ, set_zero, set_succ, add_int, add_str, add_lst, lcat_lst, sub_int', neg_int', lt_int', le_int', gt_int', ge_int', mod_int', fdiv_int, mul_int', mul_str', isN_non, isN_int, notN_non, notN_int, eq_int', ne_int', eq_str', ne_str', eq_bl', ne_bl', len_str', len_lst, len_tup, len_scr, max_int, min_int, sl_str', sl_lst, sl_scr, lsl_lst, lsl_scr, ix_str', ix_lst, ix_tup', ix_scr, range1_ok, range2_ok, range3_ok, mMeth_ev, onStr_str, mComp_ev, mCh_ev, wipeE_nil, wipeE_cons, mYes_ev, int_int, int_bl, asW_lst, asW_tup, asW_scr, asW_str, lt_str', le_str', gt_str', ge_str', mRaise_ev, sum_ints, all_bls, any_bls, list_lst, list_tup, list_scr, sorted_ints', g_find_ev, g_find3_ev, g_find4_ev, g_rfind_ev, g_rfind4_ev, g_count_ev, g_count3_ev, g_count4_ev, g_startswith_ev, g_endswith_ev, Int.reduceToNat, List.getD_cons_zero, List.getD_cons_succ, List.length_map, List.length_reverse, Int.zero_mul, Int.mul_zero, Int.add_zero, Int.mul_one, nc0, nc1, nc2, nc3, nc4, nc5, nc6, nc7, nc8, nc9, nc10, nc11, nc12, nc13, List.cons_append, List.nil_append, decide_true, decide_false, not_false_eq_true, not_true_eq_false, mCallR_ev, retLE_rtL, retDE_rt, flatR_bl, flatR_int, flatR_str, flatR_non, flatR_exc, getOwn_own, mMut0_ev, mSetIx_ev, putIx_ok, rev_lst, lrep_ev, if_small, if_small', rngL_len, endS_nx, endS_rt, in_sign, notIn_sign, isN_str, notN_str, isN_tup, notN_tup, isi_int_int, isi_int_bool, isi_bl_bool, isi_bl_int, isi_str_str, isi_tup_tup, isi_lst_lst, isi_non_int, isi_non_tup, _root_.FL.R.ok_bind, _root_.FL.R.exc_bind, _root_.FL.R.stuck_bind, _root_.FL.R.pure_eq, List.append_nil, List.length_cons, List.length_nil, Nat.zero_add, Nat.reduceAdd, Nat.reduceLeDiff, Nat.reduceLT, and_self, and_true, true_and, nextK_nx, nextK_ct, nextK_bk, nextK_rt, nextK_rtL, nextK_ex, nextK_ite, decide_eq_true_eq, if_true, if_false, ite_true, ite_false, Bool.true_eq_false, Bool.false_eq_true, Bool.not_true, Bool.not_false, reduceIte, Bool.not_eq_true', decide_eq_false_iff_not, hm, ep]
      rw [bind_nx]
      simp -implicitDefEqProofs (disch := first | omega | (simp only [List.length_map, List.length_append, List.length_cons, List.length_nil, List.length_take, List.length_drop, repS_len, rngL_len, List.length_range, List.length_reverse]; done) | (simp only [List.length_map, List.length_append, List.length_cons, List.length_nil, List.length_take, List.length_drop, repS_len, rngL_len, List.length_range, List.length_reverse]; omega)) only [mVar_ev, mVarR_ev, getV_val, getR_val, getR_own, mC_ev, mOp_ev, mOpL_ev, mT_ev, asB_bl, mAnd_ev, mOr_ev, mNot_ev, mAndV_ev, mOrV_ev, mNotV_ev, mIf_ev, mNil_ev, mCons_ev, mTup_ev, mLst_ev, mCall_ev, mPn_ev, mPs_ev, asI_int, mSl_ev, mSlL_ev, asL_lst, asL_scr, asTp_tup, asSt_str, R_ite, mWalk_ev, mLe_ev, mNeg_ev, mSeq_ev, mSkip_ev, bind_rt, bind_rtL, bind_bk, bind_ct, bind_ex, bind_ite, lift_ok, lift_exc, lift_ite, mAsg_ev, mAsgL_ev, mDrop_ev, mRet_ev, mRetL_ev, mRetN_ev, mRetOwn_ev, getO_own, mIfS_ev, mSet1_ev, onO_own, onO_val, mAppend_ev, putO_own, mAsgG_ev, optSO_some, gSet_ev, gsNil_ev, gsCons_ev, obind_some, gTupM_1, gTupM_2, gTupM_3, gTupM_4, gTupM_5, gTupM_6, mFor_ev, retD_nx, retD_rt, retD_rtL, retD_ex, retD_ite, retLs_rtL, retLs_ex, retLs_ite, nth_zero, nth_succ, set_zero, set_succ, add_int, add_str, add_lst, lcat_lst, sub_int', neg_int', lt_int', le_int', gt_int', ge_int', mod_int', fdiv_int, mul_int', mul_str', isN_non, isN_int, notN_non, notN_int, eq_int', ne_int', eq_str', ne_str', eq_bl', ne_bl', len_str', len_lst, len_tup, len_scr, max_int, min_int, sl_str', sl_lst, sl_scr, lsl_lst, lsl_scr, ix_str', ix_lst, ix_tup', ix_scr, range1_ok, range2_ok, range3_ok, mMeth_ev, onStr_str, mComp_ev, mCh_ev, wipeE_nil, wipeE_cons, mYes_ev, int_int, int_bl, asW_lst, asW_tup, asW_scr, asW_str, lt_str', le_str', gt_str', ge_str', mRaise_ev, sum_ints, all_bls, any_bls, list_lst, list_tup, list_scr, sorted_ints', g_find_ev, g_find3_ev, g_find4_ev, g_rfind_ev, g_rfind4_ev, g_count_ev, g_count3_ev, g_count4_ev, g_startswith_ev, g_endswith_ev, Int.reduceToNat, List.getD_cons_zero, List.getD_cons_succ, List.length_map, List.length_reverse, Int.zero_mul, Int.mul_zero, Int.add_zero, Int.mul_one, nc0, nc1, nc2, nc3, nc4, nc5, nc6, nc7, nc8, nc9, nc10, nc11, nc12, nc13, List.cons_append, List.nil_append, decide_true, decide_false, not_false_eq_true, not_true_eq_false, mCallR_ev, retLE_rtL, retDE_rt, flatR_bl, flatR_int, flatR_str, flatR_non, flatR_exc, getOwn_own, mMut0_ev, mSetIx_ev, putIx_ok, rev_lst, lrep_ev, if_small, if_small', rngL_len, endS_nx, endS_rt, in_sign, notIn_sign, isN_str, notN_str, isN_tup, notN_tup, isi_int_int, isi_int_bool, isi_bl_bool, isi_bl_int, isi_str_str, isi_tup_tup, isi_lst_lst, isi_non_int, isi_non_tup, _root_.FL.R.ok_bind, _root_.FL.R.exc_bind, _root_.FL.R.stuck_bind, _root_.FL.R.pure_eq, List.append_nil, List.length_cons, List.length_nil, Nat.zero_add, Nat.reduceAdd, Nat.reduceLeDiff, Nat.reduceLT, and_self, and_true, true_and, nextK_nx, nextK_ct, nextK_bk, nextK_rt, nextK_rtL, nextK_ex, nextK_ite, decide_eq_true_eq, if_true, if_false, ite_true, ite_false, Bool.true_eq_false, Bool.false_eq_true, Bool.not_true, Bool.not_false, reduceIte, Bool.not_eq_true', decide_eq_false_iff_not, em]
      rw [bind_nx]
      have third : mIfS (mT (mOp D.in_ (mVar 7) (mTup (mCons (mC (.str [106])) (mCons (mC (.str [107])) (mCons (mC (.str [112])) mNil))))))
        (mAsg 3 (mCall gMin2 (mCons (mVar 3) (mCons (mC (.int 99)) mNil))))
        mSkip [.val (.scr ns), .val (.str T), x2, .val (.int (k : Int)), .val (.int v), .val (.int (v * 69621 % 2147483629)), .val (.int (p : Int)), .val (.str (mvK m)), x8, x9] = .nx [.val (.scr ns), .val (.str T), x2, .val (.int (k' : Int)), .val (.int v), .val (.int (v * 69621 % 2147483629)), .val (.int (p : Int)), .val (.str (mvK m)), x8, x9] := by
        cases hj : isJ m with
        | true =>
          rw [hj, if_pos rfl] at ek
          simp -implicitDefEqProofs (disch := first | omega | (simp only [List.length_map, List.length_append, List.length_cons, List.length_nil, List.length_take, List.length_drop, repS_len, rngL_len, List.length_range, List.length_reverse]; done) | (simp only [List.length_map, List.length_append, List.length_cons, List.length_nil, List.length_take, List.length_drop, repS_len, rngL_len, List.length_range, List.length_reverse]; omega)) only [mVar_ev, mVarR_ev, getV_val, getR_val, getR_own, mC_ev, mOp_ev, mOpL_ev, mT_ev, asB_bl, mAnd_ev, mOr_ev, mNot_ev, mAndV_ev, mOrV_ev, mNotV_ev, mIf_ev, mNil_ev, mCons_ev, mTup_ev, mLst_ev, mCall_ev, mPn_ev, mPs_ev, asI_int, mSl_ev, mSlL_ev, asL_lst, asL_scr, asTp_tup, asSt_str, R_ite, mWalk_ev, mLe_ev, mNeg_ev, mSeq_ev, mSkip_ev, bind_nx, bind_rt, bind_rtL, bind_bk, bind_ct, bind_ex, bind_ite, lift_ok, lift_exc, lift_ite, mAsg_ev, mAsgL_ev, mDrop_ev, mRet_ev, mRetL_ev, mRetN_ev, mRetOwn_ev, getO_own, mIfS_ev, mSet1_ev, onO_own, onO_val, mAppend_ev, putO_own, mAsgG_ev, optSO_some, gSet_ev, gsNil_ev, gsCons_ev, obind_some, gTupM_1, gTupM_2, gTupM_3, gTupM_4, gTupM_5, gTupM_6, mFor_ev, retD_nx, retD_rt, retD_rtL, retD_ex, retD_ite, retLs_rtL, retLs_ex, retLs_ite, nth_zero, nth_succ, set_zero, set_succ, add_int, add_str, add_lst, lcat_lst, sub_int', neg_int', lt_int', le_int', gt_int', ge_int', mod_int', fdiv_int, mul_int', mul_str', isN_non, isN_int, notN_non, notN_int, eq_int', ne_int', eq_str', ne_str', eq_bl', ne_bl', len_str', len_lst, len_tup, len_scr, max_int, min_int, sl_str', sl_lst, sl_scr, lsl_lst, lsl_scr, ix_str', ix_lst, ix_tup', ix_scr, range1_ok, range2_ok, range3_ok, mMeth_ev, onStr_str, mComp_ev, mCh_ev, wipeE_nil, wipeE_cons, mYes_ev, int_int, int_bl, asW_lst, asW_tup, asW_scr, asW_str, lt_str', le_str', gt_str', ge_str', mRaise_ev, sum_ints, all_bls, any_bls, list_lst, list_tup, list_scr, sorted_ints', g_find_ev, g_find3_ev, g_find4_ev, g_rfind_ev, g_rfind4_ev, g_count_ev, g_count3_ev, g_count4_ev, g_startswith_ev, g_endswith_ev, Int.reduceToNat, List.getD_cons_zero, List.getD_cons_succ, List.length_map, List.length_reverse, Int.zero_mul, Int.mul_zero, Int.add_zero, Int.mul_one, nc0, nc1, nc2, nc3, nc4, nc5, nc6, nc7, nc8, nc9, nc10, nc11, nc12, nc13, List.cons_append, List.nil_append, decide_true, decide_false, not_false_eq_true, not_true_eq_false, mCallR_ev, retLE_rtL, retDE_rt, flatR_bl, flatR_int, flatR_str, flatR_non, flatR_exc, getOwn_own, mMut0_ev, mSetIx_ev, putIx_ok, rev_lst, lrep_ev, if_small, if_small', rngL_len, endS_nx, endS_rt, in_sign, notIn_sign, isN_str, notN_str, isN_tup, notN_tup, isi_int_int, isi_int_bool, isi_bl_bool, isi_bl_int, isi_str_str, isi_tup_tup, isi_lst_lst, isi_non_int, isi_non_tup, _root_.FL.R.ok_bind, _root_.FL.R.exc_bind, _root_.FL.R.stuck_bind, _root_.FL.R.pure_eq, List.append_nil, List.length_cons, List.length_nil, Nat.zero_add, Nat.reduceAdd, Nat.reduceLeDiff, Nat.reduceLT, and_self, and_true, true_and, nextK_nx, nextK_ct, nextK_bk, nextK_rt, nextK_rtL, nextK_ex, nextK_ite, decide_eq_true_eq, if_true, if_false, ite_true, ite_false, Bool.true_eq_false, Bool.false_eq_true, Bool.not_true, Bool.not_false, reduceIte, Bool.not_eq_true', decide_eq_false_iff_not, in_j, hj, ek]
        | false =>
          rw [hj, if_neg Bool.false_ne_true] at ek
          simp -implicitDefEqProofs (disch := first | omega | (simp only [List.length_map, List.length_append, List.length_cons, List.length_nil, List.length_take, List.length_drop, repS_len, rngL_len, List.length_range, List.length_reverse]; done) | (simp only [List.length_map, List.length_append, List.length_cons, List.length_nil, List.length_take, List.length_drop, repS_len, rngL_len, List.length_range, List.length_reverse]; omega)) only [mVar_ev, mVarR_ev, getV_val, getR_val, getR_own, mC_ev, mOp_ev, mOpL_ev, mT_ev, asB_bl, mAnd_ev, mOr_ev, mNot_ev, mAndV_ev, mOrV_ev, mNotV_ev, mIf_ev, mNil_ev, mCons_ev, mTup_ev, mLst_ev, mCall_ev, mPn_ev, mPs_ev, asI_int, mSl_ev, mSlL_ev, asL_lst, asL_scr, asTp_tup, asSt_str, R_ite, mWalk_ev, mLe_ev, mNeg_ev, mSeq_ev, mSkip_ev, bind_nx, bind_rt, bind_rtL, bind_bk, bind_ct, bind_ex, bind_ite, lift_ok, lift_exc, lift_ite, mAsg_ev, mAsgL_ev, mDrop_ev, mRet_ev, mRetL_ev, mRetN_ev, mRetOwn_ev, getO_own, mIfS_ev, mSet1_ev, onO_own, onO_val, mAppend_ev, putO_own, mAsgG_ev, optSO_some, gSet_ev, gsNil_ev, gsCons_ev, obind_some, gTupM_1, gTupM_2, gTupM_3, gTupM_4, gTupM_5, gTupM_6, mFor_ev, retD_nx, retD_rt, retD_rtL, retD_ex, retD_ite, retLs_rtL, retLs_ex, retLs_ite, nth_zero, nth_succ, set_zero, set_succ, add_int, add_str, add_lst, lcat_lst, sub_int', neg_int', lt_int', le_int', gt_int', ge_int', mod_int', fdiv_int, mul_int', mul_str', isN_non, isN_int, notN_non, notN_int, eq_int', ne_int', eq_str', ne_str', eq_bl', ne_bl', len_str', len_lst, len_tup, len_scr, max_int, min_int, sl_str', sl_lst, sl_scr, lsl_lst, lsl_scr, ix_str', ix_lst, ix_tup', ix_scr, range1_ok, range2_ok, range3_ok, mMeth_ev, onStr_str, mComp_ev, mCh_ev, wipeE_nil, wipeE_cons, mYes_ev, int_int, int_bl, asW_lst, asW_tup, asW_scr, asW_str, lt_str', le_str', gt_str', ge_str', mRaise_ev, sum_ints, all_bls, any_bls, list_lst, list_tup, list_scr, sorted_ints', g_find_ev, g_find3_ev, g_find4_ev, g_rfind_ev, g_rfind4_ev, g_count_ev, g_count3_ev, g_count4_ev, g_startswith_ev, g_endswith_ev, Int.reduceToNat, List.getD_cons_zero, List.getD_cons_succ, List.length_map, List.length_reverse, Int.zero_mul, Int.mul_zero, Int.add_zero, Int.mul_one, nc0, nc1, nc2, nc3, nc4, nc5, nc6, nc7, nc8, nc9, nc10, nc11, nc12, nc13, List.cons_append, List.nil_append, decide_true, decide_false, not_false_eq_true, not_true_eq_false, mCallR_ev, retLE_rtL, retDE_rt, flatR_bl, flatR_int, flatR_str, flatR_non, flatR_exc, getOwn_own, mMut0_ev, mSetIx_ev, putIx_ok, rev_lst, lrep_ev, if_small, if_small', rngL_len, endS_nx, endS_rt, in_sign, notIn_sign, isN_str, notN_str, isN_tup, notN_tup, isi_int_int, isi_int_bool, isi_bl_bool, isi_bl_int, isi_str_str, isi_tup_tup, isi_lst_lst, isi_non_int, isi_non_tup, _root_.FL.R.ok_bind, _root_.FL.R.exc_bind, _root_.FL.R.stuck_bind, _root_.FL.R.pure_eq, List.append_nil, List.length_cons, List.length_nil, Nat.zero_add, Nat.reduceAdd, Nat.reduceLeDiff, Nat.reduceLT, and_self, and_true, true_and, nextK_nx, nextK_ct, nextK_bk, nextK_rt, nextK_rtL, nextK_ex, nextK_ite, decide_eq_true_eq, if_true, if_false, ite_true, ite_false, Bool.true_eq_false, Bool.false_eq_true, Bool.not_true, Bool.not_false, reduceIte, Bool.not_eq_true', decide_eq_false_iff_not, in_j, hj, ek]
      rw [mSeq_ev, third, bind_nx]
      simp -implicitDefEqProofs (disch := first | omega | (simp only [List.length_map, List.length_append, List.length_cons, List.length_nil, List.length_take, List.length_drop, repS_len, rngL_len, List.length_range, List.length_reverse]; done) | (simp only [List.length_map, List.length_append, List.length_cons, List.length_nil, List.length_take, List.length_drop, repS_len, rngL_len, List.length_range, List.length_reverse]; omega)) only [mVar_ev, mVarR_ev, getV_val, getR_val, getR_own, mC_ev, mOp_ev, mOpL_ev, mT_ev, asB_bl, mAnd_ev, mOr_ev, mNot_ev, mAndV_ev, mOrV_ev, mNotV_ev, mIf_ev, mNil_ev, mCons_ev, mTup_ev, mLst_ev, mCall_ev, mPn_ev, mPs_ev, asI_int, mSl_ev, mSlL_ev, asL_lst, asL_scr, asTp_tup, asSt_str, R_ite, mWalk_ev, mLe_ev, mNeg_ev, mSeq_ev, mSkip_ev, bind_rt, bind_rtL, bind_bk, bind_ct, bind_ex, bind_ite, lift_ok, lift_exc, lift_ite, mAsg_ev, mAsgL_ev, mDrop_ev, mRet_ev, mRetL_ev, mRetN_ev, mRetOwn_ev, getO_own, mIfS_ev, mSet1_ev, onO_own, onO_val, mAppend_ev, putO_own, mAsgG_ev, optSO_some, gSet_ev, gsNil_ev, gsCons_ev, obind_some, gTupM_1, gTupM_2, gTupM_3, gTupM_4, gTupM_5, gTupM_6, mFor_ev, retD_nx, retD_rt, retD_rtL, retD_ex, retD_ite, retLs_rtL, retLs_ex, retLs_ite, nth_zero, nth_succ, set_zero, set_succ, add_int, add_str, add_lst, lcat_lst, sub_int', neg_int', lt_int', le_int', gt_int', ge_int', mod_int', fdiv_int, mul_int', mul_str', isN_non, isN_int, notN_non, notN_int, eq_int', ne_int', eq_str', ne_str', eq_bl', ne_bl', len_str', len_lst, len_tup, len_scr, max_int, min_int, sl_str', sl_lst, sl_scr, lsl_lst, lsl_scr, ix_str', ix_lst, ix_tup', ix_scr, range1_ok, range2_ok, range3_ok, mMeth_ev, onStr_str, mComp_ev, mCh_ev, wipeE_nil, wipeE_cons, mYes_ev, int_int, int_bl, asW_lst, asW_tup, asW_scr, asW_str, lt_str', le_str', gt_str', ge_str', mRaise_ev, sum_ints, all_bls, any_bls, list_lst, list_tup, list_scr, sorted_ints', g_find_ev, g_find3_ev, g_find4_ev, g_rfind_ev, g_rfind4_ev, g_count_ev, g_count3_ev, g_count4_ev, g_startswith_ev, g_endswith_ev, Int.reduceToNat, List.getD_cons_zero, List.getD_cons_succ, List.length_map, List.length_reverse, Int.zero_mul, Int.mul_zero, Int.add_zero, Int.mul_one, nc0, nc1, nc2, nc3, nc4, nc5, nc6, nc7, nc8, nc9, nc10, nc11, nc12, nc13, List.cons_append, List.nil_append, decide_true, decide_false, not_false_eq_true, not_true_eq_false, mCallR_ev, retLE_rtL, retDE_rt, flatR_bl, flatR_int, flatR_str, flatR_non, flatR_exc, getOwn_own, mMut0_ev, mSetIx_ev, putIx_ok, rev_lst, lrep_ev, if_small, if_small', rngL_len, endS_nx, endS_rt, in_sign, notIn_sign, isN_str, notN_str, isN_tup, notN_tup, isi_int_int, isi_int_bool, isi_bl_bool, isi_bl_int, isi_str_str, isi_tup_tup, isi_lst_lst, isi_non_int, isi_non_tup, _root_.FL.R.ok_bind, _root_.FL.R.exc_bind, _root_.FL.R.stuck_bind, _root_.FL.R.pure_eq, List.append_nil, List.length_cons, List.length_nil, Nat.zero_add, Nat.reduceAdd, Nat.reduceLeDiff, Nat.reduceLT, and_self, and_true, true_and, nextK_nx, nextK_ct, nextK_bk, nextK_rt, nextK_rtL, nextK_ex, nextK_ite, decide_eq_true_eq, if_true, if_false, ite_true, ite_false, Bool.true_eq_false, Bool.false_eq_true, Bool.not_true, Bool.not_false, reduceIte, Bool.not_eq_true', decide_eq_false_iff_not, en]
      rw [bind_nx]
      simp -implicitDefEqProofs (disch := first | omega | (simp only [List.length_map, List.length_append, List.length_cons, List.length_nil, List.length_take, List.length_drop, repS_len, rngL_len, List.length_range, List.length_reverse]; done) | (simp only [List.length_map, List.length_append, List.length_cons, List.length_nil, List.length_take, List.length_drop, repS_len, rngL_len, List.length_range, List.length_reverse]; omega)) only [mVar_ev, mVarR_ev, getV_val, getR_val, getR_own, mC_ev, mOp_ev, mOpL_ev, mT_ev, asB_bl, mAnd_ev, mOr_ev, mNot_ev, mAndV_ev, mOrV_ev, mNotV_ev, mIf_ev, mNil_ev, mCons_ev, mTup_ev, mLst_ev, mCall_ev, mPn_ev, mPs_ev, asI_int, mSl_ev, mSlL_ev, asL_lst, asL_scr, asTp_tup, asSt_str, R_ite, mWalk_ev, mLe_ev, mNeg_ev, mSeq_ev, mSkip_ev, bind_rt, bind_rtL, bind_bk, bind_ct, bind_ex, bind_ite, lift_ok, lift_exc, lift_ite, mAsg_ev, mAsgL_ev, mDrop_ev, mRet_ev, mRetL_ev, mRetN_ev, mRetOwn_ev, getO_own, mIfS_ev, mSet1_ev, onO_own, onO_val, mAppend_ev, putO_own, mAsgG_ev, optSO_some, gSet_ev, gsNil_ev, gsCons_ev, obind_some, gTupM_1, gTupM_2, gTupM_3, gTupM_4, gTupM_5, gTupM_6, mFor_ev, retD_nx, retD_rt, retD_rtL, retD_ex, retD_ite, retLs_rtL, retLs_ex, retLs_ite, nth_zero, nth_succ, set_zero, set_succ, add_int, add_str, add_lst, lcat_lst, sub_int', neg_int', lt_int', le_int', gt_int', ge_int', mod_int', fdiv_int, mul_int', mul_str', isN_non, isN_int, notN_non, notN_int, eq_int', ne_int', eq_str', ne_str', eq_bl', ne_bl', len_str', len_lst, len_tup, len_scr, max_int, min_int, sl_str', sl_lst, sl_scr, lsl_lst, lsl_scr, ix_str', ix_lst, ix_tup', ix_scr, range1_ok, range2_ok, range3_ok, mMeth_ev, onStr_str, mComp_ev, mCh_ev, wipeE_nil, wipeE_cons, mYes_ev, int_int, int_bl, asW_lst, asW_tup, asW_scr, asW_str, lt_str', le_str', gt_str', ge_str', mRaise_ev, sum_ints, all_bls, any_bls, list_lst, list_tup, list_scr, sorted_ints', g_find_ev, g_find3_ev, g_find4_ev, g_rfind_ev, g_rfind4_ev, g_count_ev, g_count3_ev, g_count4_ev, g_startswith_ev, g_endswith_ev, Int.reduceToNat, List.getD_cons_zero, List.getD_cons_succ, List.length_map, List.length_reverse, Int.zero_mul, Int.mul_zero, Int.add_zero, Int.mul_one, nc0, nc1, nc2, nc3, nc4, nc5, nc6, nc7, nc8, nc9, nc10, nc11, nc12, nc13, List.cons_append, List.nil_append, decide_true, decide_false, not_false_eq_true, not_true_eq_false, mCallR_ev, retLE_rtL, retDE_rt, flatR_bl, flatR_int, flatR_str, flatR_non, flatR_exc, getOwn_own, mMut0_ev, mSetIx_ev, putIx_ok, rev_lst, lrep_ev, if_small, if_small', rngL_len, endS_nx, endS_rt, in_sign, notIn_sign, isN_str, notN_str, isN_tup, notN_tup, isi_int_int, isi_int_bool, isi_bl_bool, isi_bl_int, isi_str_str, isi_tup_tup, isi_lst_lst, isi_non_int, isi_non_tup, _root_.FL.R.ok_bind, _root_.FL.R.exc_bind, _root_.FL.R.stuck_bind, _root_.FL.R.pure_eq, List.append_nil, List.length_cons, List.length_nil, Nat.zero_add, Nat.reduceAdd, Nat.reduceLeDiff, Nat.reduceLT, and_self, and_true, true_and, nextK_nx, nextK_ct, nextK_bk, nextK_rt, nextK_rtL, nextK_ex, nextK_ite, decide_eq_true_eq, if_true, if_false, ite_true, ite_false, Bool.true_eq_false, Bool.false_eq_true, Bool.not_true, Bool.not_false, reduceIte, Bool.not_eq_true', decide_eq_false_iff_not, d]
      rw [bind_nx]
      simp -implicitDefEqProofs (disch := first | omega | (simp only [List.length_map, List.length_append, List.length_cons, List.length_nil, List.length_take, List.length_drop, repS_len, rngL_len, List.length_range, List.length_reverse]; done) | (simp only [List.length_map, List.length_append, List.length_cons, List.length_nil, List.length_take, List.length_drop, repS_len, rngL_len, List.length_range, List.length_reverse]; omega)) only [mVar_ev, mVarR_ev, getV_val, getR_val, getR_own, mC_ev, mOp_ev, mOpL_ev, mT_ev, asB_bl, mAnd_ev, mOr_ev, mNot_ev, mAndV_ev, mOrV_ev, mNotV_ev, mIf_ev, mNil_ev, mCons_ev, mTup_ev, mLst_ev, mCall_ev, mPn_ev, mPs_ev, asI_int, mSl_ev, mSlL_ev, asL_lst, asL_scr, asTp_tup, asSt_str, R_ite, mWalk_ev, mLe_ev, mNeg_ev, mSeq_ev, mSkip_ev, bind_rt, bind_rtL, bind_bk, bind_ct, bind_ex, bind_ite, lift_ok, lift_exc, lift_ite, mAsg_ev, mAsgL_ev, mDrop_ev, mRet_ev, mRetL_ev, mRetN_ev, mRetOwn_ev, getO_own, mIfS_ev, mSet1_ev, onO_own, onO_val, mAppend_ev, putO_own, mAsgG_ev, optSO_some, gSet_ev, gsNil_ev, gsCons_ev, obind_some, gTupM_1, gTupM_2, gTupM_3, gTupM_4, gTupM_5, gTupM_6, mFor_ev, retD_nx, retD_rt, retD_rtL, retD_ex, retD_ite, retLs_rtL, retLs_ex, retLs_ite, nth_zero, nth_succ, set_zero, set_succ, add_int, add_str, add_lst, lcat_lst, sub_int', neg_int', lt_int', le_int', gt_int', ge_int', mod_int', fdiv_int, mul_int', mul_str', isN_non, isN_int, notN_non, notN_int, eq_int', ne_int', eq_str', ne_str', eq_bl', ne_bl', len_str', len_lst, len_tup, len_scr, max_int, min_int, sl_str', sl_lst, sl_scr, lsl_lst, lsl_scr, ix_str', ix_lst, ix_tup', ix_scr, range1_ok, range2_ok, range3_ok, mMeth_ev, onStr_str, mComp_ev, mCh_ev, wipeE_nil, wipeE_cons, mYes_ev, int_int, int_bl, asW_lst, asW_tup, asW_scr, asW_str, lt_str', le_str', gt_str', ge_str', mRaise_ev, sum_ints, all_bls, any_bls, list_lst, list_tup, list_scr, sorted_ints', g_find_ev, g_find3_ev, g_find4_ev, g_rfind_ev, g_rfind4_ev, g_count_ev, g_count3_ev, g_count4_ev, g_startswith_ev, g_endswith_ev, Int.reduceToNat, List.getD_cons_zero, List.getD_cons_succ, List.length_map, List.length_reverse, Int.zero_mul, Int.mul_zero, Int.add_zero, Int.mul_one, nc0, nc1, nc2, nc3, nc4, nc5, nc6, nc7, nc8, nc9, nc10, nc11, nc12, nc13, List.cons_append, List.nil_append, decide_true, decide_false, not_false_eq_true, not_true_eq_false, mCallR_ev, retLE_rtL, retDE_rt, flatR_bl, flatR_int, flatR_str, flatR_non, flatR_exc, getOwn_own, mMut0_ev, mSetIx_ev, putIx_ok, rev_lst, lrep_ev, if_small, if_small', rngL_len, endS_nx, endS_rt, in_sign, notIn_sign, isN_str, notN_str, isN_tup, notN_tup, isi_int_int, isi_int_bool, isi_bl_bool, isi_bl_int, isi_str_str, isi_tup_tup, isi_lst_lst, isi_non_int, isi_non_tup, _root_.FL.R.ok_bind, _root_.FL.R.exc_bind, _root_.FL.R.stuck_bind, _root_.FL.R.pure_eq, List.append_nil, List.length_cons, List.length_nil, Nat.zero_add, Nat.reduceAdd, Nat.reduceLeDiff, Nat.reduceLT, and_self, and_true, true_and, nextK_nx, nextK_ct, nextK_bk, nextK_rt, nextK_rtL, nextK_ex, nextK_ite, decide_eq_true_eq, if_true, if_false, ite_true, ite_false, Bool.true_eq_false, Bool.false_eq_true, Bool.not_true, Bool.not_false, reduceIte, Bool.not_eq_true', decide_eq_false_iff_not, g1, g2, s1]
      rw [bind_nx]
      simp -implicitDefEqProofs (disch := first | omega | (simp only [List.length_map, List.length_append, List.length_cons, List.length_nil, List.length_take, List.length_drop, repS_len, rngL_len, List.length_range, List.length_reverse]; done) | (simp only [List.length_map, List.length_append, List.length_cons, List.length_nil, List.length_take, List.length_drop, repS_len, rngL_len, List.length_range, List.length_reverse]; omega)) only [mVar_ev, mVarR_ev, getV_val, getR_val, getR_own, mC_ev, mOp_ev, mOpL_ev, mT_ev, asB_bl, mAnd_ev, mOr_ev, mNot_ev, mAndV_ev, mOrV_ev, mNotV_ev, mIf_ev, mNil_ev, mCons_ev, mTup_ev, mLst_ev, mCall_ev, mPn_ev, mPs_ev, asI_int, mSl_ev, mSlL_ev, asL_lst, asL_scr, asTp_tup, asSt_str, R_ite, mWalk_ev, mLe_ev, mNeg_ev, mSeq_ev, mSkip_ev, bind_nx, bind_rt, bind_rtL, bind_bk, bind_ct, bind_ex, bind_ite, lift_ok, lift_exc, lift_ite, mAsg_ev, mAsgL_ev, mDrop_ev, mRet_ev, mRetL_ev, mRetN_ev, mRetOwn_ev, getO_own, mIfS_ev, mSet1_ev, onO_own, onO_val, mAppend_ev, putO_own, mAsgG_ev, optSO_some, gSet_ev, gsNil_ev, gsCons_ev, obind_some, gTupM_1, gTupM_2, gTupM_3, gTupM_4, gTupM_5, gTupM_6, mFor_ev, retD_nx, retD_rt, retD_rtL, retD_ex, retD_ite, retLs_rtL, retLs_ex, retLs_ite, nth_zero, nth_succ, set_zero, set_succ, add_int, add_str, add_lst, lcat_lst, sub_int', neg_int', lt_int', le_int', gt_int', ge_int', mod_int', fdiv_int, mul_int', mul_str', isN_non, isN_int, notN_non, notN_int, eq_int', ne_int', eq_str', ne_str', eq_bl', ne_bl', len_str', len_lst, len_tup, len_scr, max_int, min_int, sl_str', sl_lst, sl_scr, lsl_lst, lsl_scr, ix_str', ix_lst, ix_tup', ix_scr, range1_ok, range2_ok, range3_ok, mMeth_ev, onStr_str, mComp_ev, mCh_ev, wipeE_nil, wipeE_cons, mYes_ev, int_int, int_bl, asW_lst, asW_tup, asW_scr, asW_str, lt_str', le_str', gt_str', ge_str', mRaise_ev, sum_ints, all_bls, any_bls, list_lst, list_tup, list_scr, sorted_ints', g_find_ev, g_find3_ev, g_find4_ev, g_rfind_ev, g_rfind4_ev, g_count_ev, g_count3_ev, g_count4_ev, g_startswith_ev, g_endswith_ev, Int.reduceToNat, List.getD_cons_zero, List.getD_cons_succ, List.length_map, List.length_reverse, Int.zero_mul, Int.mul_zero, Int.add_zero, Int.mul_one, nc0, nc1, nc2, nc3, nc4, nc5, nc6, nc7, nc8, nc9, nc10, nc11, nc12, nc13, List.cons_append, List.nil_append, decide_true, decide_false, not_false_eq_true, not_true_eq_false, mCallR_ev, retLE_rtL, retDE_rt, flatR_bl, flatR_int, flatR_str, flatR_non, flatR_exc, getOwn_own, mMut0_ev, mSetIx_ev, putIx_ok, rev_lst, lrep_ev, if_small, if_small', rngL_len, endS_nx, endS_rt, in_sign, notIn_sign, isN_str, notN_str, isN_tup, notN_tup, isi_int_int, isi_int_bool, isi_bl_bool, isi_bl_int, isi_str_str, isi_tup_tup, isi_lst_lst, isi_non_int, isi_non_tup, _root_.FL.R.ok_bind, _root_.FL.R.exc_bind, _root_.FL.R.stuck_bind, _root_.FL.R.pure_eq, List.append_nil, List.length_cons, List.length_nil, Nat.zero_add, Nat.reduceAdd, Nat.reduceLeDiff, Nat.reduceLT, and_self, and_true, true_and, nextK_nx, nextK_ct, nextK_bk, nextK_rt, nextK_rtL, nextK_ex, nextK_ite, decide_eq_true_eq, if_true, if_false, ite_true, ite_false, Bool.true_eq_false, Bool.false_eq_true, Bool.not_true, Bool.not_false, reduceIte, Bool.not_eq_true', decide_eq_false_iff_not, g3, s2]
      exact ih'
  simp -implicitDefEqProofs (disch := first | omega | (simp only [List.length_map, List.length_append, List.length_cons, List.length_nil, List.length_take, List.length_drop, repS_len, rngL_len, List.length_range, List.length_reverse]; done) | (simp only [List.length_map, List.length_append, List.length_cons, List.length_nil, List.length_take, List.length_drop, repS_len, rngL_len, List.length_range, List.length_reverse]; omega)) only [mVar_ev, mVarR_ev, getV_val, getR_val, getR_own, mC_ev, mOp_ev, mOpL_ev, mT_ev, asB_bl, mAnd_ev, mOr_ev, mNot_ev, mAndV_ev, mOrV_ev, mNotV_ev, mIf_ev, mNil_ev, mCons_ev, mTup_ev, mLst_ev, mCall_ev, mPn_ev, mPs_ev, asI_int, mSl_ev, mSlL_ev, asL_lst, asL_scr, asTp_tup, asSt_str, R_ite, mWalk_ev, mLe_ev, mNeg_ev, mSeq_ev, mSkip_ev, bind_rt, bind_rtL, bind_bk, bind_ct, bind_ex, bind_ite, lift_ok, lift_exc, lift_ite, mAsg_ev, mAsgL_ev, mDrop_ev, mRet_ev, mRetL_ev, mRetN_ev, mRetOwn_ev, getO_own, mIfS_ev, mSet1_ev, onO_own, onO_val, mAppend_ev, putO_own, mAsgG_ev, optSO_some, gSet_ev, gsNil_ev, gsCons_ev, obind_some, gTupM_1, gTupM_2, gTupM_3, gTupM_4, gTupM_5, gTupM_6, mFor_ev, retD_nx, retD_rt, retD_rtL, retD_ex, retD_ite, retLs_rtL, retLs_ex, retLs_ite, nth_zero, nth_succ, set_zero, set_succ, add_int, add_str, add_lst, lcat_lst, sub_int', neg_int', lt_int', le_int', gt_int', ge_int', mod_int', fdiv_int, mul_int', mul_str', isN_non, isN_int, notN_non, notN_int, eq_int', ne_int', eq_str', ne_str', eq_bl', ne_bl', len_str', len_lst, len_tup, len_scr, max_int, min_int, sl_str', sl_lst, sl_scr, lsl_lst, lsl_scr, ix_str', ix_lst, ix_tup', ix_scr, range1_ok, range2_ok, range3_ok, mMeth_ev, onStr_str, mComp_ev, mCh_ev, wipeE_nil, wipeE_cons, mYes_ev, int_int, int_bl, asW_lst, asW_tup, asW_scr, asW_str, lt_str', le_str', gt_str', ge_str', mRaise_ev, sum_ints, all_bls, any_bls, list_lst, list_tup, list_scr, sorted_ints', g_find_ev, g_find3_ev, g_find4_ev, g_rfind_ev, g_rfind4_ev, g_count_ev, g_count3_ev, g_count4_ev, g_startswith_ev, g_endswith_ev, Int.reduceToNat, List.getD_cons_zero, List.getD_cons_succ, List.length_map, List.length_reverse, Int.zero_mul, Int.mul_zero, Int.add_zero, Int.mul_one, nc0, nc1, nc2, nc3, nc4, nc5, nc6, nc7, nc8, nc9, nc10, nc11, nc12, nc13, List.cons_append, List.nil_append, decide_true, decide_false, not_false_eq_true, not_true_eq_false, mCallR_ev, retLE_rtL, retDE_rt, flatR_bl, flatR_int, flatR_str, flatR_non, flatR_exc, getOwn_own, mMut0_ev, mSetIx_ev, putIx_ok, rev_lst, lrep_ev, if_small, if_small', rngL_len, endS_nx, endS_rt, in_sign, notIn_sign, isN_str, notN_str, isN_tup, notN_tup, isi_int_int, isi_int_bool, isi_bl_bool, isi_bl_int, isi_str_str, isi_tup_tup, isi_lst_lst, isi_non_int, isi_non_tup, _root_.FL.R.ok_bind, _root_.FL.R.exc_bind, _root_.FL.R.stuck_bind, _root_.FL.R.pure_eq, List.append_nil, List.length_cons, List.length_nil, Nat.zero_add, Nat.reduceAdd, Nat.reduceLeDiff, Nat.reduceLT, and_self, and_true, true_and, nextK_nx, nextK_ct, nextK_bk, nextK_rt, nextK_rtL, nextK_ex, nextK_ite, decide_eq_true_eq, if_true, if_false, ite_true, ite_false, Bool.true_eq_false, Bool.false_eq_true, Bool.not_true, Bool.not_false, reduceIte, Bool.not_eq_true', decide_eq_false_iff_not]
  rw [bind_nx]
  by_cases q : (60 : Int) < T.length
  · obtain ⟨x, e⟩ := loop (.val (.lst ((cutL ns (some 2) (some 10)).map D.int))) (cutL ns (some 2) (some 10)) 999 .no .no .no .no .no .no (by omega) (by omega) fun k hk => hb k (cut_mem hk)
    have e' : forL (gSet 4) b_law_l1 ((cutL ns (some 2) (some 10)).map D.int) [.val (.scr ns), .val (.str T), .val (.lst ((cutL ns (some 2) (some 10)).map D.int)), .val (.int 999), .no, .no, .no, .no, .no, .no] = _ := e
    simp -implicitDefEqProofs (disch := first | omega | (simp only [List.length_map, List.length_append, List.length_cons, List.length_nil, List.length_take, List.length_drop, repS_len, rngL_len, List.length_range, List.length_reverse]; done) | (simp only [List.length_map, List.length_append, List.length_cons, List.length_nil, List.length_take, List.length_drop, repS_len, rngL_len, List.length_range, List.length_reverse]; omega)) only [mVar_ev, mVarR_ev, getV_val, getR_val, getR_own, mC_ev, mOp_ev, mOpL_ev, mT_ev, asB_bl, mAnd_ev, mOr_ev, mNot_ev, mAndV_ev, mOrV_ev, mNotV_ev, mIf_ev, mNil_ev, mCons_ev, mTup_ev, mLst_ev, mCall_ev, mPn_ev, mPs_ev, asI_int, mSl_ev, mSlL_ev, asL_lst, asL_scr, asTp_tup, asSt_str, R_ite, mWalk_ev, mLe_ev, mNeg_ev, mSeq_ev, mSkip_ev, bind_nx, bind_rt, bind_rtL, bind_bk, bind_ct, bind_ex, bind_ite, lift_ok, lift_exc, lift_ite, mAsg_ev, mAsgL_ev, mDrop_ev, mRet_ev, mRetL_ev, mRetN_ev, mRetOwn_ev, getO_own, mIfS_ev, mSet1_ev, onO_own, onO_val, mAppend_ev, putO_own, mAsgG_ev, optSO_some, gSet_ev, gsNil_ev, gsCons_ev, obind_some, gTupM_1, gTupM_2, gTupM_3, gTupM_4, gTupM_5, gTupM_6, mFor_ev, retD_nx, retD_rt, retD_rtL, retD_ex, retD_ite, retLs_rtL, retLs_ex, retLs_ite, nth_zero, nth_succ, set_zero, set_succ, add_int, add_str, add_lst, lcat_lst, sub_int', neg_int', lt_int', le_int', gt_int', ge_int', mod_int', fdiv_int, mul_int', mul_str', isN_non, isN_int, notN_non, notN_int, eq_int', ne_int', eq_str', ne_str', eq_bl', ne_bl', len_str', len_lst, len_tup, len_scr, max_int, min_int, sl_str', sl_lst, sl_scr, lsl_lst, lsl_scr, ix_str', ix_lst, ix_tup', ix_scr, range1_ok, range2_ok, range3_ok, mMeth_ev, onStr_str, mComp_ev, mCh_ev, wipeE_nil, wipeE_cons, mYes_ev, int_int, int_bl, asW_lst, asW_tup, asW_scr, asW_str, lt_str', le_str', gt_str', ge_str', mRaise_ev, sum_ints, all_bls, any_bls, list_lst, list_tup, list_scr, sorted_ints', g_find_ev, g_find3_ev, g_find4_ev, g_rfind_ev, g_rfind4_ev, g_count_ev, g_count3_ev, g_count4_ev, g_startswith_ev, g_endswith_ev, Int.reduceToNat, List.getD_cons_zero, List.getD_cons_succ, List.length_map, List.length_reverse, Int.zero_mul, Int.mul_zero, Int.add_zero, Int.mul_one, nc0, nc1, nc2, nc3, nc4, nc5, nc6, nc7, nc8, nc9, nc10, nc11, nc12, nc13, List.cons_append, List.nil_append, decide_true, decide_false, not_false_eq_true, not_true_eq_false, mCallR_ev, retLE_rtL, retDE_rt, flatR_bl, flatR_int, flatR_str, flatR_non, flatR_exc, getOwn_own, mMut0_ev, mSetIx_ev, putIx_ok, rev_lst, lrep_ev, if_small, if_small', rngL_len, endS_nx, endS_rt, in_sign, notIn_sign, isN_str, notN_str, isN_tup, notN_tup, isi_int_int, isi_int_bool, isi_bl_bool, isi_bl_int, isi_str_str, isi_tup_tup, isi_lst_lst, isi_non_int, isi_non_tup, _root_.FL.R.ok_bind, _root_.FL.R.exc_bind, _root_.FL.R.stuck_bind, _root_.FL.R.pure_eq, List.append_nil, List.length_cons, List.length_nil, Nat.zero_add, Nat.reduceAdd, Nat.reduceLeDiff, Nat.reduceLT, and_self, and_true, true_and, nextK_nx, nextK_ct, nextK_bk, nextK_rt, nextK_rtL, nextK_ex, nextK_ite, decide_eq_true_eq, if_true, if_false, ite_true, ite_false, Bool.true_eq_false, Bool.false_eq_true, Bool.not_true, Bool.not_false, reduceIte, Bool.not_eq_true', decide_eq_false_iff_not, q, e', e_byrows]
  · obtain ⟨x, e⟩ := loop (.val (.lst ((cutL ns (some 2) (some 62)).map D.int))) (cutL ns (some 2) (some 62)) 999 .no .no .no .no .no .no (by omega) (by omega) fun k hk => hb k (cut_mem hk)
    have e' : forL (gSet 4) b_law_l1 ((cutL ns (some 2) (some 62)).map D.int) [.val (.scr ns), .val (.str T), .val (.lst ((cutL ns (some 2) (some 62)).map D.int)), .val (.int 999), .no, .no, .no, .no, .no, .no] = _ := e
    simp -implicitDefEqProofs (disch := first | omega | (simp only [List.length_map, List.length_append, List.length_cons, List.length_nil, List.length_take, List.length_drop, repS_len, rngL_len, List.length_range, List.length_reverse]; done) | (simp only [List.length_map, List.length_append, List.length_cons, List.length_nil, List.length_take, List.length_drop, repS_len, rngL_len, List.length_range, List.length_reverse]; omega)) only [mVar_ev, mVarR_ev, getV_val, getR_val, getR_own, mC_ev, mOp_ev, mOpL_ev, mT_ev, asB_bl, mAnd_ev, mOr_ev, mNot_ev, mAndV_ev, mOrV_ev, mNotV_ev, mIf_ev, mNil_ev, mCons_ev, mTup_ev, mLst_ev, mCall_ev, mPn_ev, mPs_ev, asI_int, mSl_ev, mSlL_ev, asL_lst, asL_scr, asTp_tup, asSt_str, R_ite, mWalk_ev, mLe_ev, mNeg_ev, mSeq_ev, mSkip_ev, bind_nx, bind_rt, bind_rtL, bind_bk, bind_ct, bind_ex, bind_ite, lift_ok, lift_exc, lift_ite, mAsg_ev, mAsgL_ev, mDrop_ev, mRet_ev, mRetL_ev, mRetN_ev, mRetOwn_ev, getO_own, mIfS_ev, mSet1_ev, onO_own, onO_val, mAppend_ev, putO_own, mAsgG_ev, optSO_some, gSet_ev, gsNil_ev, gsCons_ev, obind_some, gTupM_1, gTupM_2, gTupM_3, gTupM_4, gTupM_5, gTupM_6, mFor_ev, retD_nx, retD_rt, retD_rtL, retD_ex, retD_ite, retLs_rtL, retLs_ex, retLs_ite, nth_zero, nth_succ, set_zero, set_succ, add_int, add_str, add_lst, lcat_lst, sub_int', neg_int', lt_int', le_int', gt_int', ge_int', mod_int', fdiv_int, mul_int', mul_str', isN_non, isN_int, notN_non, notN_int, eq_int', ne_int', eq_str', ne_str', eq_bl', ne_bl', len_str', len_lst, len_tup, len_scr, max_int, min_int, sl_str', sl_lst, sl_scr, lsl_lst, lsl_scr, ix_str', ix_lst, ix_tup', ix_scr, range1_ok, range2_ok, range3_ok, mMeth_ev, onStr_str, mComp_ev, mCh_ev, wipeE_nil, wipeE_cons, mYes_ev, int_int, int_bl, asW_lst, asW_tup, asW_scr, asW_str, lt_str', le_str', gt_str', ge_str', mRaise_ev, sum_ints, all_bls, any_bls, list_lst, list_tup, list_scr, sorted_ints', g_find_ev, g_find3_ev, g_find4_ev, g_rfind_ev, g_rfind4_ev, g_count_ev, g_count3_ev, g_count4_ev, g_startswith_ev, g_endswith_ev, Int.reduceToNat, List.getD_cons_zero, List.getD_cons_succ, List.length_map, List.length_reverse, Int.zero_mul, Int.mul_zero, Int.add_zero, Int.mul_one, nc0, nc1, nc2, nc3, nc4, nc5, nc6, nc7, nc8, nc9, nc10, nc11, nc12, nc13, List.cons_append, List.nil_append, decide_true, decide_false, not_false_eq_true, not_true_eq_false, mCallR_ev, retLE_rtL, retDE_rt, flatR_bl, flatR_int, flatR_str, flatR_non, flatR_exc, getOwn_own, mMut0_ev, mSetIx_ev, putIx_ok, rev_lst, lrep_ev, if_small, if_small', rngL_len, endS_nx, endS_rt, in_sign, notIn_sign, isN_str, notN_str, isN_tup, notN_tup, isi_int_int, isi_int_bool, isi_bl_bool, isi_bl_int, isi_str_str, isi_tup_tup, isi_lst_lst, isi_non_int, isi_non_tup, _root_.FL.R.ok_bind, _root_.FL.R.exc_bind, _root_.FL.R.stuck_bind, _root_.FL.R.pure_eq, List.append_nil, List.length_cons, List.length_nil, Nat.zero_add, Nat.reduceAdd, Nat.reduceLeDiff, Nat.reduceLT, and_self, and_true, true_and, nextK_nx, nextK_ct, nextK_bk, nextK_rt, nextK_rtL, nextK_ex, nextK_ite, decide_eq_true_eq, if_true, if_false, ite_true, ite_false, Bool.true_eq_false, Bool.false_eq_true, Bool.not_true, Bool.not_false, reduceIte, Bool.not_eq_true', decide_eq_false_iff_not, q, e', e_byrows]
end LW

set_option Elab.async false
set_option linter.all false
set_option maxRecDepth 100000
set_option maxHeartbeats 0
namespace LW
open PySem PySem.Spec PyProof.Rows L2 FL
set_option autoImplicit false
open PySem.W PySem.Calls
def loose0 : List PySem.Str := ["ModeError", "NoPlace", "NoRow", "row_count", "signs_ahead", "row_of", "column_of", "begin_of", "end_of", "place_of", "WORD_SIGNS", "OPENS", "CLOSES", "has_word_sign", "begins", "ends", "met_at", "partner", "Move", "Once", "Left", "Right", "Down", "Up", "RowBegin", "RowEnd", "WordOn", "WordBack", "WordOut", "Find"]
def loose1 : List PySem.Str := ["Trace", "RowNumber", "TextEnd", "Across", "Mark", "row_move", "move_of", "gone", "by_rows", "_law_cell_at", "_law_whole", "_law_same", "_law_sign", "_law_text", "_law_keys", "_law_many", "_law_by_rows"]
abbrev loose : List PySem.Str := loose0 ++ loose1
abbrev Rw : PySem.W.OpenRow := PySem.W.OpenLaw.row PySem.Challenge.rw_modehand_k16_counts
abbrev hk : PySem.W.Hook := FL.hookF 4 fa fn fx
def ob (s : PySem.W.SharedT) : FL.AlF := FL.obsFG 4 fa fn fx (HandSHeadRun.getT s)
theorem ob_eq (s : PySem.W.SharedT) : ob s = hk.obs s.abs := FL.obsFG_eq (HandSHeadRun.getT_eq s)
theorem run (w : World) : HandSHeadRun.RunEq Rw (PySem.W.view Rw.prog [52]) hk ob 20000 loose w := by
  intro os
  kernel_rfl
end LW
open PySem PySem.W PySem.Calls PyProof.Rows FL
theorem PySem.Challenge.cw_modehand_k16_counts_holds : PySem.Challenge.rw_modehand_k16_counts.Holds := by
  w_on; o_law
  refine HandSHeadRun.head_any (r := LW.Rw) (q := view LW.Rw.prog [52]) (H := LW.hk) (ob := LW.ob) (M := 20000) (loose := LW.loose) (d := HandSHeadRun.topDef LW.Rw.prog 52) (kwd := []) LW.ob_eq
    (by kernel_rfl) (fun s => by kernel_rfl) LW.run (by kernel_rfl) (by kernel_rfl) (by kernel_rfl) (by rfl) (by first | assumption | decide +kernel) (by decide +kernel) ⟨rfl, rfl, rfl, rfl, rfl, by decide +kernel⟩ ?hw ?hc
  case hw => w_witness2
  case hc => exact walk_FB (l := PySem.Challenge.rw_modehand_k16_counts) (n := 63) (k := 9) (x := "_law_script") rfl (by decide) (by kernel_rfl) ⟨rfl, by decide, by decide⟩ (by kernel_rfl) (fun w K mg base T => LW.B_law T) (fun ns h hb => by first | exact LW.law_true ns h hb | exact LW.law_true ns h)

