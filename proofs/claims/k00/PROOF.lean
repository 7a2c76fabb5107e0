import PyProof.Rows.All
import Wide.All
import OpenK.AllK
import Wide.FinOn
import HandS.ForMost
import HandS.ForExc
import HandS.Flow
import HandS.Style
import HandS.Walk
import HandS.ExcInit
import HandS.ExcOwn
import HandS.TryMany
import HandS.CallSlots
import HandS.Defaults
import HandS.HeadHook1
import HandS.HeadHook2
import HandS.TupAny
import HandS.Wide
import HandS.TupMul
import HandS.IsInst
import HandS.Conv
import HandS.ExcCtx
import HandS.HotCalls
import HandS.Ends
import HandS.HeadEnd
import KE.KStateDown
import HandS.Head0
import HandS.Head1
import HandS.Head2
import HandS.Dict
import HandS.Text
import PyProof.ReprReads
import PyProof.ReprRoads
import KE.KExcInit
import KE.KExcIs
import HandS.ExcField
import HandS.ExcIs
import HandS.ExcValue
import HandS.Hot
import PySem.Challenge.RW_fewfolds_k00_errors
set_option Elab.async false
set_option linter.all false
set_option maxRecDepth 100000
set_option maxHeartbeats 1000000
/-! Data over the hand layer: values as plain data, a small store for what is changed in place. -/
namespace Dd
open PySem PySem.Spec PyProof.Rows L2

/-- a value: plain data, the n-th object of the store, the script -/
inductive U where
  | d (x : PyData) | r (n : Nat) | s (ns : List Int) | e (c f : Str) (x : PyData) | k (xs : List PyData) | x (a : Addr) (c f : Str) (v : PyData)
/-- what is changed in place -/
inductive Ob where
  | lst (xs : List U) | dK (kvs : List (Key × U)) | dT (kvs : List (List Key × U)) | ins (C : Str) (fs : List (Str × U)) | gone
abbrev Sto := List Ob
abbrev En := List (Option U)
/-- an exception: its class, its one field -/
structure XD where
  cls : Str
  fld : Str
  val : PyData
inductive EO (α : Type) where
  | ok (a : α) (st : Sto) | ex (x : XD) (st : Sto) | bad
inductive SO where
  | nx (env : En) (st : Sto) | rt (u : U) (st : Sto) | bk (env : En) (st : Sto) | ct (env : En) (st : Sto) | ex (x : XD) (env : En) (st : Sto) | bad
abbrev ME := En → Sto → EO U
abbrev MA := En → Sto → EO (List U)
abbrev MT := En → Sto → EO Bool
abbrev MS := En → Sto → SO
abbrev MF := List U → Sto → EO U

def kD : Key → PyData
  | .inl i => .int i
  | .inr x => .str x

mutual
inductive DR (K : PySem.W.Frag) (F : Hp) : V → PyData → Prop
  | non : DR K F .non .none
  | bl (b : Bool) : DR K F (.bl b) (.bool b)
  | int (i : Int) : DR K F (.int i) (.int i)
  | str (x : Str) : DR K F (.str x) (.str x)
  | lst {a : Addr} {vs : List V} {ds : List PyData} : F a = some (.lst vs) → DRs K F vs ds → DR K F (.ref a) (.list ds)
  | tup {a : Addr} {vs : List V} {ds : List PyData} : F a = some (.tup vs) → DRs K F vs ds → DR K F (.ref a) (.tuple ds)
  | dK {a : Addr} {kvs : List (Key × V)} {des : List (PyData × PyData)} : F a = some (.dK kvs) → DRk K F kvs des → DR K F (.ref a) (.dict des)
  | dT {a : Addr} {kvs : List (List Key × V)} {des : List (PyData × PyData)} : F a = some (.dT kvs) → DRt K F kvs des → DR K F (.ref a) (.dict des)
inductive DRs (K : PySem.W.Frag) (F : Hp) : List V → List PyData → Prop
  | nil : DRs K F [] []
  | cons {v : V} {x : PyData} {vs : List V} {xs : List PyData} : DR K F v x → DRs K F vs xs → DRs K F (v :: vs) (x :: xs)
inductive DRk (K : PySem.W.Frag) (F : Hp) : List (Key × V) → List (PyData × PyData) → Prop
  | nil : DRk K F [] []
  | cons {k : Key} {v : V} {x : PyData} {vs : List (Key × V)} {xs : List (PyData × PyData)} : DR K F v x → DRk K F vs xs → DRk K F ((k, v) :: vs) ((kD k, x) :: xs)
inductive DRt (K : PySem.W.Frag) (F : Hp) : List (List Key × V) → List (PyData × PyData) → Prop
  | nil : DRt K F [] []
  | cons {ks : List Key} {v : V} {x : PyData} {vs : List (List Key × V)} {xs : List (PyData × PyData)} : DR K F v x → DRt K F vs xs → DRt K F ((ks, v) :: vs) ((.tuple (ks.map kD), x) :: xs)
end

def Sub (F F' : Hp) : Prop := ∀ a o, F a = some o → F' a = some o
theorem Sub.refl (F : Hp) : Sub F F := fun _ _ h => h
theorem Sub.trans {F G H : Hp} (a : Sub F G) (b : Sub G H) : Sub F H := fun x o h => b x o (a x o h)
theorem Sub.rd {F F' : Hp} {a : Addr} {u : HO} (e : Sub F F') (h : Rd F a u) : Rd F' a u := by
  rcases h with h | ⟨o, h⟩
  · exact Or.inl (e a _ h)
  · exact Or.inr ⟨o, e a _ h⟩
theorem Sub.sqL {K : PySem.W.Frag} {F F' : Hp} {a : Addr} {xs : List V} (e : Sub F F') (h : SqL K F a xs) : SqL K F' a xs := by
  rcases h with h | h
  · exact Or.inl (e.rd h)
  · exact Or.inr h
theorem Sub.sqT {K : PySem.W.Frag} {F F' : Hp} {a : Addr} {xs : List V} (e : Sub F F') (h : SqT K F a xs) : SqT K F' a xs := by
  rcases h with h | h
  · exact Or.inl (e.rd h)
  · exact Or.inr h

section
variable {K : PySem.W.Frag} {F F' : Hp}
mutual
theorem DR.mono (s : Sub F F') : ∀ {v : V} {x : PyData}, DR K F v x → DR K F' v x
  | _, _, .non => .non
  | _, _, .bl b => .bl b
  | _, _, .int i => .int i
  | _, _, .str x => .str x
  | _, _, .lst h r => .lst (s _ _ h) (r.mono s)
  | _, _, .tup h r => .tup (s _ _ h) (r.mono s)
  | _, _, .dK h r => .dK (s _ _ h) (r.mono s)
  | _, _, .dT h r => .dT (s _ _ h) (r.mono s)
theorem DRs.mono (s : Sub F F') : ∀ {v : List V} {x : List PyData}, DRs K F v x → DRs K F' v x
  | _, _, .nil => .nil
  | _, _, .cons a b => .cons (a.mono s) (b.mono s)
theorem DRk.mono (s : Sub F F') : ∀ {v : List (Key × V)} {x : List (PyData × PyData)}, DRk K F v x → DRk K F' v x
  | _, _, .nil => .nil
  | _, _, .cons a b => .cons (a.mono s) (b.mono s)
theorem DRt.mono (s : Sub F F') : ∀ {v : List (List Key × V)} {x : List (PyData × PyData)}, DRt K F v x → DRt K F' v x
  | _, _, .nil => .nil
  | _, _, .cons a b => .cons (a.mono s) (b.mono s)
end
theorem DRs.length : ∀ {vs : List V} {xs : List PyData}, DRs K F vs xs → vs.length = xs.length
  | _, _, .nil => rfl
  | _, _, .cons _ b => congrArg (· + 1) b.length
theorem DRs.get : ∀ {vs : List V} {xs : List PyData} {i : Nat} {x : PyData}, DRs K F vs xs → xs[i]? = some x → ∃ v, vs[i]? = some v ∧ DR K F v x
  | _, _, _, _, .nil, h => by simp at h
  | _, _, 0, _, .cons a _, h => by simp at h; subst h; exact ⟨_, rfl, a⟩
  | _, _, i + 1, _, .cons _ b, h => by
    obtain ⟨v, h1, h2⟩ := b.get (i := i) (by simpa using h)
    exact ⟨v, by simpa using h1, h2⟩
theorem DRs.append : ∀ {vs ws : List V} {xs ys : List PyData}, DRs K F vs xs → DRs K F ws ys → DRs K F (vs ++ ws) (xs ++ ys)
  | _, _, _, _, .nil, h => h
  | _, _, _, _, .cons a b, h => .cons a (b.append h)
theorem DRs.drop : ∀ {vs : List V} {xs : List PyData} (n : Nat), DRs K F vs xs → DRs K F (vs.drop n) (xs.drop n)
  | _, _, 0, h => h
  | _, _, _ + 1, .nil => .nil
  | _, _, n + 1, .cons _ b => DRs.drop n b
theorem DRs.take : ∀ {vs : List V} {xs : List PyData} (n : Nat), DRs K F vs xs → DRs K F (vs.take n) (xs.take n)
  | _, _, 0, _ => .nil
  | _, _, _ + 1, .nil => .nil
  | _, _, n + 1, .cons a b => .cons a (DRs.take n b)
theorem DRs.rev {vs : List V} {xs : List PyData} (h : DRs K F vs xs) : DRs K F vs.reverse xs.reverse := by
  induction h using DRs.rec (motive_1 := fun _ _ _ => True) (motive_3 := fun _ _ _ => True) (motive_4 := fun _ _ _ => True) with
  | nil => exact .nil
  | cons a b _ ih => rw [List.reverse_cons, List.reverse_cons]; exact ih.append (.cons a .nil)
  | _ => trivial
end

/-- an exception object of the class C with the dict at d, raised or not, its context None -/
def xo (a C d : Addr) : HO := .ext fun h => ∃ (oe : Obj) (vs : Array Value), h.get? a = some oe ∧ oe.cls = .ref C ∧ oe.dict = some d ∧ oe.data = .fields vs ∧ vs[2]? = some .none
theorem xo_ok {P : Program} {w : World} {H : Hp} {h : Heap} {a C d : Addr} {oe : Obj} {vs : Array Value} (e : h.get? a = some oe) (c : oe.cls = .ref C) (dd : oe.dict = some d) (v : oe.data = .fields vs) (n : vs[2]? = some .none) : ObjOk P w H h a (xo a C d) :=
  ⟨⟨oe, vs, e, c, dd, v, n⟩, ⟨oe, e⟩, fun _ _ ⟨o, v, q, r⟩ k => ⟨o, v, k o q, r⟩⟩
theorem xo_at {P : Program} {w : World} {H : Hp} {h : Heap} {a C d : Addr} (hok : HOk P w H h) (e : H a = some (xo a C d)) : ∃ (oe : Obj) (vs : Array Value), h.get? a = some oe ∧ oe.cls = .ref C ∧ oe.dict = some d ∧ oe.data = .fields vs ∧ vs[2]? = some .none := by
  have x : ObjOk P w H h a (.ext fun h => ∃ (oe : Obj) (vs : Array Value), h.get? a = some oe ∧ oe.cls = .ref C ∧ oe.dict = some d ∧ oe.data = .fields vs ∧ vs[2]? = some .none) := hok a _ e
  exact x.1
/-- an exception held as a value, at a -/
def XA (K : PySem.W.Frag) (F : Hp) (a : Addr) (c f : Str) (x : PyData) : Prop := ∃ (dx : Addr) (w : V), F a = some (xo a (He.ga K c) dx) ∧ F dx = some (.xd [(f, w)]) ∧ DR K F w x
theorem XA.mono {K : PySem.W.Frag} {F F' : Hp} {a : Addr} {c f : Str} {x : PyData} (s : Sub F F') (h : XA K F a c f x) : XA K F' a c f x := let ⟨dx, w, h1, h2, h3⟩ := h; ⟨dx, w, s _ _ h1, s _ _ h2, h3.mono s⟩
/-- an exception held as a value -/
def XV (K : PySem.W.Frag) (F : Hp) (v : V) (c f : Str) (x : PyData) : Prop := ∃ a : Addr, v = .ref a ∧ XA K F a c f x
inductive IR (K : PySem.W.Frag) (F : Hp) (ρ : List Addr) : V → U → Prop
  | d {v : V} {x : PyData} : DR K F v x → IR K F ρ v (.d x)
  | r {a : Addr} {n : Nat} : ρ[n]? = some a → IR K F ρ (.ref a) (.r n)
  | s {a : Addr} {ns : List Int} : SqL K F a (ns.map V.int) → IR K F ρ (.ref a) (.s ns)
  | e {v : V} {c f : Str} {x : PyData} : XV K F v c f x → IR K F ρ v (.e c f x)
  | k {a : Addr} {vs : List V} {xs : List PyData} : SqT K F a vs → DRs K F vs xs → IR K F ρ (.ref a) (.k xs)
  | x {a : Addr} {c f : Str} {z : PyData} : XA K F a c f z → IR K F ρ (.ref a) (.x a c f z)
abbrev IRs (K : PySem.W.Frag) (F : Hp) (ρ : List Addr) : List V → List U → Prop := Paired (IR K F ρ)
/-- what stands in the store at i stands in the heap at a -/
def OR (K : PySem.W.Frag) (F : Hp) (ρ : List Addr) (H : Hp) (a : Addr) : Ob → Prop
  | .lst xs => ∃ vs, H a = some (.lst vs) ∧ IRs K F ρ vs xs
  | .dK kus => ∃ kvs, H a = some (.dK kvs) ∧ Paired (fun (p : Key × V) (q : Key × U) => p.1 = q.1 ∧ IR K F ρ p.2 q.2) kvs kus
  | .dT kus => ∃ kvs, H a = some (.dT kvs) ∧ Paired (fun (p : List Key × V) (q : List Key × U) => p.1 = q.1 ∧ IR K F ρ p.2 q.2) kvs kus
  | .ins C fs => ∃ dx gs, H a = some (.ins (He.ga K C) dx gs) ∧ Paired (fun (p : Str × V) (q : Str × U) => p.1 = q.1 ∧ IR K F ρ p.2 q.2) gs fs
  | .gone => ∃ o, H a = some o

structure Evo (F : Hp) (ρ : List Addr) (H F' : Hp) (ρ' : List Addr) (H' : Hp) : Prop where
  fr : Sub F F'
  pre : ∃ l, ρ' = ρ ++ l
  keep : ∀ a o, H a = some o → a ∉ ρ → H' a = some o
  fro : ∀ a o, F' a = some o → F a = some o ∨ H a = none ∨ a ∈ ρ
  fresh : ∀ a ∈ ρ', a ∈ ρ ∨ H a = none
structure Rel (K : PySem.W.Frag) (F : Hp) (ρ : List Addr) (st : Sto) (H : Hp) : Prop where
  sub : Sub F H
  len : ρ.length = st.length
  nd : ρ.Nodup
  ob : ∀ (i : Nat) (a : Addr) (o : Ob), ρ[i]? = some a → st[i]? = some o → OR K F ρ H a o
  fr : ∀ (i : Nat) (a : Addr) (o : Ob), ρ[i]? = some a → st[i]? = some o → o ≠ .gone → F a = none
def EnR (K : PySem.W.Frag) (F : Hp) (ρ : List Addr) (σ : L2.St) (env : En) : Prop :=
  env.length = σ.length ∧ ∀ (i : Nat) (u : U), env[i]? = some (some u) → ∃ v, σ[i]? = some (some v) ∧ IR K F ρ v u
def Go (K : PySem.W.Frag) (F : Hp) (ρ : List Addr) (st : Sto) (env : En) (σ : L2.St) (H : Hp) : Prop := Rel K F ρ st H ∧ EnR K F ρ σ env
def XR (K : PySem.W.Frag) (F : Hp) (x : XD) (cls : Value) (d : Option Addr) : Prop :=
  cls = .ref (He.ga K x.cls) ∧ ∃ a w, d = some a ∧ F a = some (.xd [(x.fld, w)]) ∧ DR K F w x.val

section
variable {K : PySem.W.Frag} {F F1 F2 : Hp} {ρ ρ1 ρ2 : List Addr} {H H1 H2 : Hp} {st : Sto}
theorem Evo.refl : Evo F ρ H F ρ H := ⟨Sub.refl F, ⟨[], by simp⟩, fun _ _ h _ => h, fun _ _ h => .inl h, fun _ h => .inl h⟩
theorem Evo.trans (a : Evo F ρ H F1 ρ1 H1) (b : Evo F1 ρ1 H1 F2 ρ2 H2) : Evo F ρ H F2 ρ2 H2 := by
  have back : ∀ x, H1 x = none → H x = none ∨ x ∈ ρ := fun x h => by
    by_cases hx : x ∈ ρ
    · exact .inr hx
    · cases e : H x with
      | none => exact .inl rfl
      | some o => rw [a.keep x o e hx] at h; cases h
  refine ⟨a.fr.trans b.fr, ?_, fun x o h hn => b.keep x o (a.keep x o h hn) fun z => ?_, fun x o h => ?_, fun x h => ?_⟩
  · obtain ⟨l, e⟩ := a.pre
    obtain ⟨l', e'⟩ := b.pre
    exact ⟨l ++ l', by rw [e', e, List.append_assoc]⟩
  · rcases a.fresh x z with q | q
    · exact hn q
    · rw [h] at q; cases q
  · rcases b.fro x o h with q | q | q
    · exact a.fro x o q
    · rcases back x q with z | z
      · exact .inr (.inl z)
      · exact .inr (.inr z)
    · rcases a.fresh x q with z | z
      · exact .inr (.inr z)
      · exact .inr (.inl z)
  · rcases b.fresh x h with q | q
    · exact a.fresh x q
    · rcases back x q with z | z
      · exact .inr z
      · exact .inl z
theorem IR.mono {v : V} {u : U} (s : Sub F F1) (p : ∃ l, ρ1 = ρ ++ l) (h : IR K F ρ v u) : IR K F1 ρ1 v u := by
  cases h with
  | d h => exact .d (h.mono s)
  | r h =>
    obtain ⟨l, rfl⟩ := p
    exact .r (by rw [List.getElem?_append_left (List.getElem?_eq_some_iff.mp h).1]; exact h)
  | s h => exact .s (s.sqL h)
  | e h =>
    obtain ⟨a, e, h⟩ := h
    exact .e ⟨a, e, h.mono s⟩
  | x h => exact .x (h.mono s)
  | k h1 h2 => exact .k (s.sqT h1) (h2.mono s)
theorem paired_imp {α β : Type} {P Q : α → β → Prop} (h : ∀ a b, P a b → Q a b) : ∀ {l : List α} {m : List β}, Paired P l m → Paired Q l m
  | _, _, .nil => .nil
  | _, _, .cons a b => .cons (h _ _ a) (paired_imp h b)
theorem IRs.mono {vs : List V} {us : List U} (s : Sub F F1) (p : ∃ l, ρ1 = ρ ++ l) (h : IRs K F ρ vs us) : IRs K F1 ρ1 vs us := paired_imp (fun _ _ q => q.mono s p) h
theorem EnR.mono {σ : L2.St} {env : En} (s : Sub F F1) (p : ∃ l, ρ1 = ρ ++ l) (h : EnR K F ρ σ env) : EnR K F1 ρ1 σ env :=
  ⟨h.1, fun i u e => let ⟨v, a, b⟩ := h.2 i u e; ⟨v, a, b.mono s p⟩⟩
theorem OR.there {a : Addr} {o : Ob} (h : OR K F ρ H a o) : ∃ q, H a = some q := by
  cases o with
  | lst xs => obtain ⟨_, h, _⟩ := h; exact ⟨_, h⟩
  | dK xs => obtain ⟨_, h, _⟩ := h; exact ⟨_, h⟩
  | dT xs => obtain ⟨_, h, _⟩ := h; exact ⟨_, h⟩
  | ins C fs => obtain ⟨_, _, h, _⟩ := h; exact ⟨_, h⟩
  | gone => exact h
/-- an object's description behind a step that keeps it -/
theorem OR.mono {a : Addr} {o : Ob} (s : Sub F F1) (p : ∃ l, ρ1 = ρ ++ l) (k : ∀ q, H a = some q → H1 a = some q) (h : OR K F ρ H a o) : OR K F1 ρ1 H1 a o := by
  cases o with
  | lst xs => obtain ⟨vs, h, r⟩ := h; exact ⟨vs, k _ h, IRs.mono s p r⟩
  | dK xs => obtain ⟨vs, h, r⟩ := h; exact ⟨vs, k _ h, paired_imp (fun _ _ q => ⟨q.1, q.2.mono s p⟩) r⟩
  | dT xs => obtain ⟨vs, h, r⟩ := h; exact ⟨vs, k _ h, paired_imp (fun _ _ q => ⟨q.1, q.2.mono s p⟩) r⟩
  | ins C fs => obtain ⟨dx, gs, h, r⟩ := h; exact ⟨dx, gs, k _ h, paired_imp (fun _ _ q => ⟨q.1, q.2.mono s p⟩) r⟩
  | gone => obtain ⟨q, h⟩ := h; exact ⟨q, k _ h⟩
theorem Rel.there (R : Rel K F ρ st H) {a : Addr} (h : a ∈ ρ) : ∃ q, H a = some q := by
  obtain ⟨i, hi, e⟩ := List.mem_iff_getElem.mp h
  have hs : i < st.length := by rw [← R.len]; exact hi
  exact (R.ob i a st[i] (by rw [List.getElem?_eq_getElem hi, e]) (List.getElem?_eq_getElem hs)).there
/-- a new object, frozen at once -/
theorem Evo.new {p : Addr} {o : HO} (R : Rel K F ρ st H) (hp : H p = none) : Evo F ρ H (upd F p o) ρ (upd H p o) := by
  have hF : F p = none := by
    cases e : F p with
    | none => rfl
    | some q => rw [R.sub p q e] at hp; cases hp
  refine ⟨fun a q h => ?_, ⟨[], by simp⟩, fun a q h _ => ?_, fun a q h => ?_, fun a h => .inl h⟩
  · rw [upd_ne (ne_of_none h hF)]; exact h
  · rw [upd_ne (ne_of_none h hp)]; exact h
  · by_cases e : a = p
    · subst e; exact .inr (.inl hp)
    · rw [upd_ne e] at h; exact .inl h
theorem Rel.new {p : Addr} {o : HO} (R : Rel K F ρ st H) (hp : H p = none) : Rel K (upd F p o) ρ st (upd H p o) := by
  have ev := Evo.new (o := o) R hp
  have np : ∀ a ∈ ρ, a ≠ p := fun a h e => by
    subst e
    obtain ⟨q, z⟩ := R.there h
    rw [hp] at z; cases z
  refine ⟨fun a q h => ?_, R.len, R.nd, fun i a o h1 h2 => ?_, ?_⟩
  · by_cases e : a = p
    · subst e; rw [upd_same] at h ⊢; exact h
    · rw [upd_ne e] at h ⊢; exact R.sub a q h
  · exact (R.ob i a o h1 h2).mono ev.fr ev.pre fun q z => by rw [upd_ne (ne_of_none z hp)]; exact z
  · intro i' a' o' h1 h2 h3
    rw [upd_ne (np _ (List.mem_of_getElem? h1))]; exact R.fr _ _ _ h1 h2 h3
/-- a new object of the store -/
theorem Evo.alloc {p : Addr} {o : HO} (R : Rel K F ρ st H) (hp : H p = none) : Evo F ρ H F (ρ ++ [p]) (upd H p o) := by
  refine ⟨Sub.refl F, ⟨[p], rfl⟩, fun a q h _ => ?_, fun a q h => .inl h, fun a h => ?_⟩
  · rw [upd_ne (ne_of_none h hp)]; exact h
  · rcases List.mem_append.mp h with h | h
    · exact .inl h
    · rw [List.mem_singleton.mp h]; exact .inr hp
theorem Rel.alloc {p : Addr} {o : HO} {ob : Ob} (R : Rel K F ρ st H) (hp : H p = none) (ho : OR K F (ρ ++ [p]) (upd H p o) p ob) : Rel K F (ρ ++ [p]) (st ++ [ob]) (upd H p o) := by
  have hF : F p = none := by
    cases e : F p with
    | none => rfl
    | some q => rw [R.sub p q e] at hp; cases hp
  have np : p ∉ ρ := fun h => by
    obtain ⟨q, z⟩ := R.there h
    rw [hp] at z; cases z
  refine ⟨fun a q h => ?_, by simp [R.len], ?_, fun i a o' h1 h2 => ?_, fun i a o' h1 h2 h3 => ?_⟩
  · rw [upd_ne (ne_of_none h hF)]; exact R.sub a q h
  · rw [List.nodup_append]
    exact ⟨R.nd, by simp, fun a h b hb e => by rw [List.mem_singleton.mp hb] at e; rw [e] at h; exact np h⟩
  · by_cases hi : i < ρ.length
    · rw [List.getElem?_append_left hi] at h1
      rw [List.getElem?_append_left (by rw [← R.len]; exact hi)] at h2
      exact (R.ob i a o' h1 h2).mono (Sub.refl F) ⟨[p], rfl⟩ fun q z => by rw [upd_ne (ne_of_none z hp)]; exact z
    · have e : i = ρ.length := by
        have := (List.getElem?_eq_some_iff.mp h1).1
        simp at this; omega
      subst e
      rw [List.getElem?_append_right (Nat.le_refl _)] at h1
      rw [List.getElem?_append_right (by rw [R.len]; exact Nat.le_refl _)] at h2
      simp at h1
      simp [R.len] at h2
      subst h1 h2
      exact ho
  · by_cases hi : i < ρ.length
    · rw [List.getElem?_append_left hi] at h1
      rw [List.getElem?_append_left (by rw [← R.len]; exact hi)] at h2
      exact R.fr i a o' h1 h2 h3
    · rw [List.getElem?_append_right (by omega)] at h1
      have e := List.mem_singleton.mp (List.mem_of_getElem? h1)
      rw [e]; exact hF
/-- an object of the store is changed -/
theorem Evo.write {a : Addr} {o : HO} (R : Rel K F ρ st H) (ha : a ∈ ρ) : Evo F ρ H F ρ (upd H a o) :=
  ⟨Sub.refl F, ⟨[], by simp⟩, fun b q h hn => by rw [upd_ne (fun e => by rw [e] at hn; exact hn ha)]; exact h, fun b q h => .inl h, fun b h => .inl h⟩
theorem Rel.write {a : Addr} {o : HO} {n : Nat} {ob ob0 : Ob} (R : Rel K F ρ st H) (ha : ρ[n]? = some a) (h0 : st[n]? = some ob0) (hg : ob0 ≠ .gone) (ho : OR K F ρ (upd H a o) a ob) : Rel K F ρ (st.set n ob) (upd H a o) := by
  have hm := List.mem_of_getElem? ha
  have hF := R.fr n a ob0 ha h0 hg
  refine ⟨fun b q h => ?_, by simp [R.len], R.nd, fun i b o' h1 h2 => ?_, fun i b o' h1 h2 h3 => ?_⟩
  · have : b ≠ a := fun e => by rw [e, hF] at h; cases h
    rw [upd_ne this]; exact R.sub b q h
  · by_cases e : i = n
    · subst e
      rw [ha] at h1; cases h1
      have hl : i < st.length := by rw [← R.len]; exact (List.getElem?_eq_some_iff.mp ha).1
      rw [List.getElem?_set_self hl] at h2; cases h2
      exact ho
    · rw [List.getElem?_set_ne (Ne.symm e)] at h2
      have nb : b ≠ a := fun q => by
        subst q
        obtain ⟨l1, e1⟩ := List.getElem?_eq_some_iff.mp h1
        obtain ⟨l2, e2⟩ := List.getElem?_eq_some_iff.mp ha
        exact e ((List.getElem_inj R.nd).mp (e1.trans e2.symm))
      exact (R.ob i b o' h1 h2).mono (Sub.refl F) ⟨[], by simp⟩ fun q z => by rw [upd_ne nb]; exact z
  · by_cases e : i = n
    · subst e
      rw [ha] at h1; cases h1
      exact hF
    · rw [List.getElem?_set_ne (Ne.symm e)] at h2
      exact R.fr i b o' h1 h2 h3
/-- an object of the store is frozen -/
theorem Rel.freeze {a : Addr} {o : HO} {n : Nat} {ob : Ob} (R : Rel K F ρ st H) (ha : ρ[n]? = some a) (h0 : st[n]? = some ob) (hg : ob ≠ .gone) (hH : H a = some o) : Rel K (upd F a o) ρ (st.set n .gone) H := by
  have hF := R.fr n a ob ha h0 hg
  have sb : Sub F (upd F a o) := fun b q h => by rw [upd_ne (fun e => by rw [e, hF] at h; cases h)]; exact h
  refine ⟨fun b q h => ?_, by simp [R.len], R.nd, fun i b o' h1 h2 => ?_, fun i b o' h1 h2 h3 => ?_⟩
  · by_cases e : b = a
    · subst e; rw [upd_same] at h; cases h; exact hH
    · rw [upd_ne e] at h; exact R.sub b q h
  · by_cases e : i = n
    · subst e
      rw [ha] at h1; cases h1
      have hl : i < st.length := (List.getElem?_eq_some_iff.mp h0).1
      rw [List.getElem?_set_self hl] at h2; cases h2
      exact ⟨o, hH⟩
    · rw [List.getElem?_set_ne (Ne.symm e)] at h2
      exact (R.ob i b o' h1 h2).mono sb ⟨[], by simp⟩ fun q z => z
  · by_cases e : i = n
    · subst e
      have hl : i < st.length := (List.getElem?_eq_some_iff.mp h0).1
      rw [List.getElem?_set_self hl] at h2; cases h2
      exact absurd rfl h3
    · rw [List.getElem?_set_ne (Ne.symm e)] at h2
      have nb : b ≠ a := fun q => by
        subst q
        obtain ⟨l1, e1⟩ := List.getElem?_eq_some_iff.mp h1
        obtain ⟨l2, e2⟩ := List.getElem?_eq_some_iff.mp ha
        exact e ((List.getElem_inj R.nd).mp (e1.trans e2.symm))
      rw [upd_ne nb]
      exact R.fr i b o' h1 h2 h3
theorem Evo.freeze {a : Addr} {o : HO} {n : Nat} {ob : Ob} (R : Rel K F ρ st H) (ha : ρ[n]? = some a) (h0 : st[n]? = some ob) (hg : ob ≠ .gone) : Evo F ρ H (upd F a o) ρ H := by
  have hF := R.fr n a ob ha h0 hg
  have ha := List.mem_of_getElem? ha
  refine ⟨fun b q h => ?_, ⟨[], by simp⟩, fun b q h _ => h, fun b q h => ?_, fun b h => .inl h⟩
  · rw [upd_ne (fun e => by rw [e, hF] at h; cases h)]; exact h
  · by_cases e : b = a
    · subst e; exact .inr (.inr ha)
    · rw [upd_ne e] at h; exact .inl h
end
end Dd

set_option Elab.async false
set_option linter.all false
set_option maxRecDepth 100000
set_option maxHeartbeats 1000000
/-! Expressions. -/
namespace Dd
open PySem PySem.Spec PyProof.Rows L2

def EO.bind {α β : Type} : EO α → (α → Sto → EO β) → EO β
  | .ok a st, f => f a st
  | .ex x st, _ => .ex x st
  | .bad, _ => .bad
/-- what is wanted behind an expression -/
def Post (K : PySem.W.Frag) (W : WX) (F : Hp) (ρ : List Addr) (σ : L2.St) (H : Hp) {α β : Type} (R : Hp → List Addr → β → α → Prop) (Q : β → Hp → Prop) : EO α → Prop
  | .ok a st' => ∀ b F' ρ' H', Evo F ρ H F' ρ' H' → Rel K F' ρ' st' H' → R F' ρ' b a → Q b H'
  | .ex x st' => ∀ cls d F' ρ' H', Evo F ρ H F' ρ' H' → Rel K F' ρ' st' H' → XR K F' x cls d → W cls d σ H'
  | .bad => False
abbrev RB : Hp → List Addr → Bool → Bool → Prop := fun _ _ b a => b = a
def tE (K : PySem.W.Frag) (W : WX) (m : ME) : TE := fun σ H Q => ∃ F ρ st env, Go K F ρ st env σ H ∧ Post K W F ρ σ H (IR K) Q (m env st)
def tA (K : PySem.W.Frag) (W : WX) (m : MA) : TA := fun σ H Q => ∃ F ρ st env, Go K F ρ st env σ H ∧ Post K W F ρ σ H (IRs K) Q (m env st)
def tT (K : PySem.W.Frag) (W : WX) (m : MT) : TT := fun σ H Q => ∃ F ρ st env, Go K F ρ st env σ H ∧ Post K W F ρ σ H RB Q (m env st)
abbrev DE (X : Cx) (W : WX) (e : Expr) (m : ME) : Prop := PE X e (tE X.K W m)
abbrev DA (X : Cx) (W : WX) (es : List Expr) (m : MA) : Prop := PA X es (tA X.K W m)
abbrev DT (X : Cx) (W : WX) (e : Expr) (m : MT) : Prop := PT X e (tT X.K W m)

theorem PE.weak {X : Cx} {e : Expr} {t t' : TE} (h : PE X e t) (w : ∀ σ H Q, t' σ H Q → t σ H Q) : PE X e t' := ⟨fun pins s σ H Q I q => h.run pins s σ H Q I (w _ _ _ q)⟩
theorem PT.weak {X : Cx} {e : Expr} {t t' : TT} (h : PT X e t) (w : ∀ σ H Q, t' σ H Q → t σ H Q) : PT X e t' := ⟨fun pins s σ H Q I q => h.run pins s σ H Q I (w _ _ _ q)⟩
theorem PW.weak {X : Cx} {e : Expr} {t t' : TT} (h : PW X e t) (w : ∀ σ H Q, t' σ H Q → t σ H Q) : PW X e t' := ⟨fun wh pins s σ H Q I q => h.run wh pins s σ H Q I (w _ _ _ q)⟩
theorem PA.weak {X : Cx} {e : List Expr} {t t' : TA} (h : PA X e t) (w : ∀ σ H Q, t' σ H Q → t σ H Q) : PA X e t' := ⟨fun p pins s σ H Q I q => h.run p pins s σ H Q I (w _ _ _ q)⟩
theorem PS.weak {X : Cx} {e : Stmt} {t t' : TS} (h : PS X e t) (w : ∀ D σ H, t' D σ H → t D σ H) : PS X e t' := ⟨fun pins s σ H Q I q => h.run pins s σ H Q I (w _ _ _ q)⟩
theorem PSs.weak {X : Cx} {e : List Stmt} {t t' : TS} (h : PSs X e t) (w : ∀ D σ H, t' D σ H → t D σ H) : PSs X e t' := ⟨fun pins s σ H Q I q => h.run pins s σ H Q I (w _ _ _ q)⟩

section
variable {K : PySem.W.Frag} {W : WX} {F F1 : Hp} {ρ ρ1 : List Addr} {σ : L2.St} {H H1 : Hp} {st : Sto}
theorem Post.step {α β : Type} {R : Hp → List Addr → β → α → Prop} {Q : β → Hp → Prop} {m : EO α} (ev : Evo F ρ H F1 ρ1 H1) (h : Post K W F ρ σ H R Q m) : Post K W F1 ρ1 σ H1 R Q m := by
  cases m with
  | ok a st' => exact fun b F' ρ' H' e r q => h b F' ρ' H' (ev.trans e) r q
  | ex x st' => exact fun c d F' ρ' H' e r q => h c d F' ρ' H' (ev.trans e) r q
  | bad => exact h
theorem Post.bind {α β γ δ : Type} {R : Hp → List Addr → β → α → Prop} {R' : Hp → List Addr → δ → γ → Prop} {Q : β → Hp → Prop} {Q' : δ → Hp → Prop} {m : EO α} {f : α → Sto → EO γ} (h : Post K W F ρ σ H R' Q' (m.bind f))
    (k : ∀ a st b F1 ρ1 H1, m = .ok a st → Evo F ρ H F1 ρ1 H1 → Rel K F1 ρ1 st H1 → R F1 ρ1 b a → Post K W F1 ρ1 σ H1 R' Q' (f a st) → Q b H1) : Post K W F ρ σ H R Q m := by
  cases m with
  | ok a st' => exact fun b F' ρ' H' e r q => k a st' b F' ρ' H' rfl e r q (Post.step e h)
  | ex x st' => exact h
  | bad => exact h
theorem Post.ok {α β : Type} {R : Hp → List Addr → β → α → Prop} {Q : β → Hp → Prop} {a : α} (r : Rel K F ρ st H) (h : Post K W F ρ σ H R Q (.ok a st)) {b : β} (q : R F ρ b a) : Q b H := h b F ρ H Evo.refl r q
end

section
variable {X : Cx} {W : WX}
/-! ### names, constants -/
def mVar (i : Nat) : ME := fun env st => match env[i]? with
  | some (some u) => .ok u st
  | _ => .bad
theorem mVar_eq {i : Nat} {env : En} {st : Sto} {u : U} (h : env[i]? = some (some u)) : mVar i env st = .ok u st := by
  unfold mVar; rw [h]
theorem de_var {x : Str} {pos : Pos} (i : Nat) (hN : X.N[i]? = some x := by rfl) (hv : Vis X.env.scope x := by first | exact Or.inl rfl | exact Or.inr (Or.inl rfl) | exact Or.inr (Or.inr rfl)) (hd : (x == ("__debug__" : Str)) = false := by decide)
    (hcd : (x == ("__classdict__" : Str)) = false := by decide) : DE X W (.Name x pos) (mVar i) := by
  refine PE.weak (pe_var hN hv hd hcd) ?_
  rintro σ H Q ⟨F, ρ, st, env, ⟨R, E⟩, p⟩
  unfold mVar at p
  split at p
  · rename_i u h
    obtain ⟨v, h1, h2⟩ := E.2 i u h
    exact ⟨v, h1, p.ok R h2⟩
  · exact p.elim
def mD (x : PyData) : ME := fun _ st => .ok (.d x) st
theorem de_c {e : Expr} {v : V} {x : PyData} (h : PE X e (tC v)) (r : ∀ F, DR X.K F v x) : DE X W e (mD x) := by
  refine PE.weak h ?_
  rintro σ H Q ⟨F, ρ, st, env, ⟨R, E⟩, p⟩
  exact Post.ok (K := X.K) (W := W) (R := IR X.K) R p (.d (r F))
theorem de_int {i : Int} {j : Nat} {pos : Pos} : DE X W (.Constant (.int i) j pos) (mD (.int i)) := de_c pe_int fun _ => .int i
theorem de_bl {b : Bool} {j : Nat} {pos : Pos} : DE X W (.Constant (.bool b) j pos) (mD (.bool b)) := de_c pe_bl fun _ => .bl b
theorem de_non {j : Nat} {pos : Pos} : DE X W (.Constant .none j pos) (mD .none) := de_c pe_non fun _ => .non
theorem de_str {x : Str} {j : Nat} {pos : Pos} : DE X W (.Constant (.str x) j pos) (mD (.str x)) := de_c pe_str fun _ => .str x

/-! ### two parts -/
def mBin (op : U → U → Sto → EO U) (a b : ME) : ME := fun env st => (a env st).bind fun u st1 => (b env st1).bind fun w st2 => op u w st2
/-- an operation by values does what op says -/
def D2 (K : PySem.W.Frag) (r : R2) (op : U → U → Sto → EO U) : Prop := ∀ {W : WX} {F : Hp} {ρ : List Addr} {st : Sto} {σ : L2.St} {H : Hp} {Q : VK} {x y : V} {u w : U},
  Rel K F ρ st H → IR K F ρ x u → IR K F ρ y w → Post K W F ρ σ H (IR K) Q (op u w st) → r x y H Q
theorem bin_go {r : R2} {op : U → U → Sto → EO U} {ma mb : ME} (hr : D2 X.K r op) {σ : L2.St} {H : Hp} {Q : VK} (h : tE X.K W (mBin op ma mb) σ H Q) : tOp r (tE X.K W ma) (tE X.K W mb) σ H Q := by
  obtain ⟨F, ρ, st, env, ⟨R, E⟩, p⟩ := h
  refine ⟨F, ρ, st, env, ⟨R, E⟩, Post.bind p fun u st1 x F1 ρ1 H1 _ ev R1 i1 p1 => ?_⟩
  refine ⟨F1, ρ1, st1, env, ⟨R1, E.mono ev.fr ev.pre⟩, Post.bind p1 fun w st2 y F2 ρ2 H2 _ ev2 R2 i2 p2 => ?_⟩
  exact hr R2 (i1.mono ev2.fr ev2.pre) i2 p2
theorem de_op {a b : Expr} {o : Operator} {pos : Pos} {r : R2} {op : U → U → Sto → EO U} {ma mb : ME} (ho : OpR X (binaryOp o) r) (hr : D2 X.K r op) (ha : DE X W a ma) (hb : DE X W b mb) : DE X W (.BinOp a o b pos) (mBin op ma mb) :=
  PE.weak (pe_op ho ha hb) fun _ _ _ h => bin_go hr h
theorem de_cmp {a b : Expr} {o : CmpOp} {pos : Pos} {r : R2} {op : U → U → Sto → EO U} {ma mb : ME} (ho : OpR X (compareOp o) r) (hr : D2 X.K r op) (ha : DE X W a ma) (hb : DE X W b mb) (hm : behindInMarks o b = false) : DE X W (.Compare a [o] [b] pos) (mBin op ma mb) :=
  PE.weak (pe_cmpR ho ha hb hm) fun _ _ _ h => bin_go hr h
theorem D2.or {K : PySem.W.Frag} {r r' : R2} {op op' : U → U → Sto → EO U} {f : U → U → Sto → EO U} (h : D2 K r op) (h' : D2 K r' op') (e : ∀ u w st, f u w st = op u w st ∨ f u w st = op' u w st) : D2 K (fun x y H Q => r x y H Q ∨ r' x y H Q) f := by
  intro W F ρ st σ H Q x y u w R i1 i2 p
  rcases e u w st with q | q
  · rw [q] at p; exact .inl (h R i1 i2 p)
  · rw [q] at p; exact .inr (h' R i1 i2 p)

/-! ### ints -/
def opI (g : Int → Int → EO U) : U → U → Sto → EO U := fun u w _ => match u, w with
  | .d (.int i), .d (.int j) => g i j
  | _, _ => .bad
theorem IR.int_inv {K : PySem.W.Frag} {F : Hp} {ρ : List Addr} {v : V} {i : Int} (h : IR K F ρ v (.d (.int i))) : v = .int i := by
  cases h with | d h => cases h; rfl
theorem IR.bl_inv {K : PySem.W.Frag} {F : Hp} {ρ : List Addr} {v : V} {i : Bool} (h : IR K F ρ v (.d (.bool i))) : v = .bl i := by
  cases h with | d h => cases h; rfl
theorem IR.str_inv {K : PySem.W.Frag} {F : Hp} {ρ : List Addr} {v : V} {i : Str} (h : IR K F ρ v (.d (.str i))) : v = .str i := by
  cases h with | d h => cases h; rfl
theorem IR.tup_inv {K : PySem.W.Frag} {F : Hp} {ρ : List Addr} {v : V} {xs : List PyData} (h : IR K F ρ v (.d (.tuple xs))) : ∃ a vs, v = .ref a ∧ SqT K F a vs ∧ DRs K F vs xs := by
  cases h with | d h => cases h with | tup h1 h2 => exact ⟨_, _, rfl, .of h1, h2⟩
theorem IR.tup_inv' {K : PySem.W.Frag} {F : Hp} {ρ : List Addr} {v : V} {xs : List PyData} (h : IR K F ρ v (.d (.tuple xs))) : ∃ a vs, v = .ref a ∧ F a = some (.tup vs) ∧ DRs K F vs xs := by
  cases h with | d h => cases h with | tup h1 h2 => exact ⟨_, _, rfl, h1, h2⟩
theorem IR.lst_inv {K : PySem.W.Frag} {F : Hp} {ρ : List Addr} {v : V} {xs : List PyData} (h : IR K F ρ v (.d (.list xs))) : ∃ a vs, v = .ref a ∧ F a = some (.lst vs) ∧ DRs K F vs xs := by
  cases h with | d h => cases h with | lst h1 h2 => exact ⟨_, _, rfl, h1, h2⟩
theorem IR.r_inv {K : PySem.W.Frag} {F : Hp} {ρ : List Addr} {v : V} {n : Nat} (h : IR K F ρ v (.r n)) : ∃ a, v = .ref a ∧ ρ[n]? = some a := by
  cases h with | r h => exact ⟨_, rfl, h⟩
/-- all plain data -/
def datas : List U → Option (List PyData)
  | [] => some []
  | .d x :: r => (datas r).map (x :: ·)
  | _ :: _ => none
theorem datas_map (xs : List PyData) : datas (xs.map .d) = some xs := by
  induction xs with
  | nil => rfl
  | cons x r ih => show (datas (r.map .d)).map _ = _; rw [ih]; rfl
theorem datas_eq : ∀ {us : List U} {xs : List PyData}, datas us = some xs → us = xs.map .d
  | [], xs, h => by cases h; rfl
  | .d x :: r, xs, h => by
    have h' : (datas r).map (x :: ·) = some xs := h
    cases e : datas r with
    | none => rw [e] at h'; cases h'
    | some ys => rw [e] at h'; cases h'; rw [datas_eq e]; rfl
  | .r _ :: _, _, h => by cases h
  | .s _ :: _, _, h => by cases h
  | .e _ _ _ :: _, _, h => by cases h
  | .k _ :: _, _, h => by cases h
  | .x _ _ _ _ :: _, _, h => by cases h
theorem IRs.datas {K : PySem.W.Frag} {F : Hp} {ρ : List Addr} : ∀ {vs : List V} {xs : List PyData}, IRs K F ρ vs (xs.map .d) → DRs K F vs xs
  | _, [], h => by cases h; exact .nil
  | _, x :: r, h => by
    cases h with
    | cons a b => cases a with | d a => exact .cons a (IRs.datas b)
theorem DRs.irs {K : PySem.W.Frag} {F : Hp} {ρ : List Addr} : ∀ {vs : List V} {xs : List PyData}, DRs K F vs xs → IRs K F ρ vs (xs.map .d)
  | _, _, .nil => .nil
  | _, _, .cons a b => .cons (.d a) b.irs
theorem IRs.length {K : PySem.W.Frag} {F : Hp} {ρ : List Addr} {vs : List V} {us : List U} (h : IRs K F ρ vs us) : vs.length = us.length := Paired.length h
theorem IRs.get {K : PySem.W.Frag} {F : Hp} {ρ : List Addr} : ∀ {vs : List V} {us : List U} {i : Nat} {u : U}, IRs K F ρ vs us → us[i]? = some u → ∃ v, vs[i]? = some v ∧ IR K F ρ v u
  | _, _, _, _, .nil, h => by simp at h
  | _, _, 0, _, .cons a _, h => by simp at h; subst h; exact ⟨_, rfl, a⟩
  | _, _, i + 1, _, .cons _ b, h => by
    obtain ⟨v, h1, h2⟩ := IRs.get (i := i) b (by simpa using h)
    exact ⟨v, by simpa using h1, h2⟩
theorem IRs.append {K : PySem.W.Frag} {F : Hp} {ρ : List Addr} : ∀ {vs ws : List V} {xs ys : List U}, IRs K F ρ vs xs → IRs K F ρ ws ys → IRs K F ρ (vs ++ ws) (xs ++ ys)
  | _, _, _, _, .nil, h => h
  | _, _, _, _, .cons a b, h => .cons a (IRs.append b h)
theorem IRs.set {K : PySem.W.Frag} {F : Hp} {ρ : List Addr} {v : V} {u : U} (r : IR K F ρ v u) : ∀ {vs : List V} {us : List U} (i : Nat), IRs K F ρ vs us → IRs K F ρ (vs.set i v) (us.set i u)
  | _, _, _, .nil => .nil
  | _, _, 0, .cons _ b => .cons r b
  | _, _, i + 1, .cons a b => .cons a (IRs.set r i b)
/-- a new list: of the store, or frozen -/
def mkL (s : Bool) (us : List U) (st : Sto) : EO U := if s then .ok (.r st.length) (st ++ [.lst us]) else match datas us with
  | some xs => .ok (.d (.list xs)) st
  | none => .bad
theorem mkL_ok {K : PySem.W.Frag} {W : WX} {F : Hp} {ρ : List Addr} {st : Sto} {σ : L2.St} {H : Hp} {Q : VK} {s : Bool} {vs : List V} {us : List U} (R : Rel K F ρ st H) (i : IRs K F ρ vs us)
    (p : Post K W F ρ σ H (IR K) Q (mkL s us st)) {a : Addr} (ha : H a = none) : Q (.ref a) (upd H a (.lst vs)) := by
  unfold mkL at p
  cases s with
  | true =>
    rw [if_pos rfl] at p
    refine p _ F (ρ ++ [a]) _ (Evo.alloc R ha) (R.alloc ha ⟨vs, upd_same, IRs.mono (Sub.refl F) ⟨[a], rfl⟩ i⟩) (.r ?_)
    rw [← R.len, List.getElem?_append_right (Nat.le_refl _)]
    simp
  | false =>
    rw [if_neg Bool.false_ne_true] at p
    cases e : datas us with
    | none => rw [e] at p; exact p.elim
    | some xs =>
      rw [e] at p
      rw [datas_eq e] at i
      exact p _ _ _ _ (Evo.new R ha) (R.new ha) (.d (.lst upd_same ((IRs.datas i).mono (Evo.new R ha).fr)))
/-- a new tuple of plain data -/
theorem mkT_ok {K : PySem.W.Frag} {W : WX} {F : Hp} {ρ : List Addr} {st : Sto} {σ : L2.St} {H : Hp} {Q : VK} {vs : List V} {xs : List PyData} (R : Rel K F ρ st H) (i : DRs K F vs xs)
    (p : Post K W F ρ σ H (IR K) Q (.ok (.d (.tuple xs)) st)) {a : Addr} (ha : H a = none) : Q (.ref a) (upd H a (.tup vs)) :=
  p _ _ _ _ (Evo.new R ha) (R.new ha) (.d (.tup upd_same (i.mono (Evo.new R ha).fr)))

def dAdd : U → U → Sto → EO U := fun u w st => match u, w with
  | .d (.int i), .d (.int j) => .ok (.d (.int (i + j))) st
  | .d (.tuple xs), .d (.tuple ys) => if xs.length + ys.length ≤ 10000000 then .ok (.d (.tuple (xs ++ ys))) st else .bad
  | .d (.list xs), .d (.list ys) => if xs.length + ys.length ≤ 10000000 then .ok (.d (.list (xs ++ ys))) st else .bad
  | .d (.str x), .d (.str y) => if x.length + y.length ≤ 10000000 then .ok (.d (.str (x ++ y))) st else .bad
  | _, _ => .bad
theorem line10 {n : Nat} (h : n ≤ 10000000) : n ≤ sizeLine := by rw [sizeLine_eq]; omega
theorem line10' {n : Nat} (h : n < 10000000) : n < sizeLine := by rw [sizeLine_eq]; omega
def rAddA (K : PySem.W.Frag) : R2 := fun x y H Q => ((rI0 fun i j => .int (i + j)) x y H Q ∨ rCatA K x y H Q) ∨ rCat x y H Q ∨ ∃ i j, x = .str i ∧ y = .str j ∧ i.length + j.length ≤ sizeLine ∧ Q (.str (i ++ j)) H
theorem op_addA : OpR X (binaryOp .Add) (rAddA X.K) := (op_add.or op_catA).or (op_cat.or op_add_str)
theorem d2_add {K : PySem.W.Frag} : D2 K (rAddA K) dAdd := by
  intro W F ρ st σ H Q x y u w R i1 i2 p
  unfold dAdd at p
  split at p
  · rw [i1.int_inv, i2.int_inv]
    exact .inl (.inl ⟨_, _, rfl, rfl, p.ok R (.d (.int _))⟩)
  · rename_i xs ys
    split at p
    · rename_i hz
      obtain ⟨a, vs, rfl, h1, r1⟩ := i1.tup_inv
      obtain ⟨b, ws, rfl, h2, r2⟩ := i2.tup_inv
      have l1 := r1.length
      have l2 := r2.length
      refine .inl (.inr ⟨a, b, vs, ws, rfl, rfl, R.sub.sqT h1, R.sub.sqT h2, line10 (by omega), fun e => ?_, fun _ e => ?_, fun _ _ q hq => mkT_ok R (r1.append r2) p hq⟩)
      · subst e; cases r1
        exact p.ok R i2
      · subst e; cases r2
        rw [List.append_nil] at p
        exact p.ok R i1
    · exact p.elim
  · rename_i xs ys
    split at p
    · rename_i hz
      obtain ⟨a, vs, rfl, h1, r1⟩ := i1.lst_inv
      obtain ⟨b, ws, rfl, h2, r2⟩ := i2.lst_inv
      have l1 := r1.length
      have l2 := r2.length
      refine .inr (.inl ⟨a, b, vs, ws, rfl, rfl, R.sub _ _ h1, R.sub _ _ h2, line10 (by omega), fun q hq => ?_⟩)
      exact p _ _ _ _ (Evo.new R hq) (R.new hq) (.d (.lst upd_same ((r1.append r2).mono (Evo.new R hq).fr)))
    · exact p.elim
  · split at p
    · rename_i hz
      rw [i1.str_inv, i2.str_inv]
      exact .inr (.inr ⟨_, _, rfl, rfl, line10 hz, p.ok R (.d (.str _))⟩)
    · exact p.elim
  · exact p.elim
theorem de_add {a b : Expr} {pos : Pos} {ma mb : ME} (ha : DE X W a ma) (hb : DE X W b mb) : DE X W (.BinOp a .Add b pos) (mBin dAdd ma mb) := de_op op_addA d2_add ha hb

def dInt (C : Int → Int → Bool) (g : Int → Int → Int) : U → U → Sto → EO U := fun u w st => match u, w with
  | .d (.int i), .d (.int j) => if C i j then .ok (.d (.int (g i j))) st else .bad
  | _, _ => .bad
theorem d2_int {K : PySem.W.Frag} {C : Int → Int → Bool} {P : Int → Int → Prop} {g : Int → Int → Int} (h : ∀ i j, C i j = true → P i j) : D2 K (rI P fun i j => .int (g i j)) (dInt C g) := by
  intro W F ρ st σ H Q x y u w R i1 i2 p
  unfold dInt at p
  split at p
  · split at p
    · rename_i c
      rw [i1.int_inv, i2.int_inv]
      exact ⟨_, _, rfl, rfl, h _ _ c, p.ok R (.d (.int _))⟩
    · exact p.elim
  · exact p.elim
abbrev dSub := dInt (fun _ _ => true) (· - ·)
theorem de_sub {a b : Expr} {pos : Pos} {ma mb : ME} (ha : DE X W a ma) (hb : DE X W b mb) : DE X W (.BinOp a .Sub b pos) (mBin dSub ma mb) :=
  de_op (r := rI (fun _ _ => True) fun i j => .int (i - j)) (fun pins s σ H x y v u Q I rx ry h => op_sub pins s σ H x y v u Q I rx ry (let ⟨i, j, a, b, _, q⟩ := h; ⟨i, j, a, b, q⟩)) (d2_int fun _ _ _ => trivial) ha hb
abbrev dMod := dInt (fun _ j => decide (0 < j)) (· % ·)
theorem de_mod {a b : Expr} {pos : Pos} {ma mb : ME} (ha : DE X W a ma) (hb : DE X W b mb) : DE X W (.BinOp a .Mod b pos) (mBin dMod ma mb) := de_op op_mod (d2_int fun _ _ h => of_decide_eq_true h) ha hb
abbrev dFdiv := dInt (fun _ j => decide (0 < j ∧ j.natAbs.log2 < 9000)) (· / ·)
theorem de_fdiv {a b : Expr} {pos : Pos} {ma mb : ME} (ha : DE X W a ma) (hb : DE X W b mb) : DE X W (.BinOp a .FloorDiv b pos) (mBin dFdiv ma mb) := de_op op_fdivW (d2_int fun _ _ h => of_decide_eq_true h) ha hb
abbrev dPow := dInt (fun i j => decide (0 ≤ j ∧ j ≤ 1000000 ∧ i.natAbs < 2 ^ 64)) (fun i j => i ^ j.toNat)
theorem de_pow {a b : Expr} {pos : Pos} {ma mb : ME} (ha : DE X W a ma) (hb : DE X W b mb) : DE X W (.BinOp a .Pow b pos) (mBin dPow ma mb) := de_op op_pow (d2_int fun _ _ h => of_decide_eq_true h) ha hb
end
end Dd

set_option Elab.async false
set_option linter.all false
set_option maxRecDepth 100000
set_option maxHeartbeats 1000000
/-! Tests, displays, subscripts, built-ins. -/
namespace Dd
open PySem PySem.Spec PyProof.Rows L2

section
variable {X : Cx} {W : WX}
/-! ### tests -/
def mTest (m : ME) : MT := fun env st => (m env st).bind fun u st => match u with
  | .d (.bool b) => .ok b st
  | _ => .bad
theorem test_go {m : ME} {σ : L2.St} {H : Hp} {Q : Bool → Hp → Prop} (h : tT X.K W (mTest m) σ H Q) : tE X.K W m σ H fun x H' => ∃ k, x = .bl k ∧ Q k H' := by
  obtain ⟨F, ρ, st, env, ⟨R, E⟩, p⟩ := h
  refine ⟨F, ρ, st, env, ⟨R, E⟩, Post.bind p fun u st1 x F1 ρ1 H1 _ ev R1 i1 p1 => ?_⟩
  split at p1
  · exact ⟨_, i1.bl_inv, p1.ok R1 rfl⟩
  · exact p1.elim
theorem dt_val {e : Expr} {m : ME} (h : DE X W e m) (he : ∀ whole, isTrue e X.env whole = (do let v ← whole; standAt e.pos; holding [v] (truthy v)) := by intro _; rfl) : DT X W e (mTest m) :=
  PT.weak (pt_val h he) fun _ _ _ q => test_go q
theorem dt_cmp {a b : Expr} {o : CmpOp} {pos : Pos} {r : R2} {op : U → U → Sto → EO U} {ma mb : ME} (ho : OpR X (compareOp o) r) (hr : D2 X.K r op) (ha : DE X W a ma) (hb : DE X W b mb) (hm : behindInMarks o b = false) : DT X W (.Compare a [o] [b] pos) (mTest (mBin op ma mb)) :=
  PT.weak (pt_cmpR ho ha hb hm) fun _ _ _ q => bin_go hr (W := W) (by
    obtain ⟨F, ρ, st, env, ⟨R, E⟩, p⟩ := q
    refine ⟨F, ρ, st, env, ⟨R, E⟩, Post.bind p fun u st1 x F1 ρ1 H1 _ ev R1 i1 p1 => ?_⟩
    split at p1
    · exact ⟨_, i1.bl_inv, p1.ok R1 rfl⟩
    · exact p1.elim)
def mAnd (a b : MT) : MT := fun env st => (a env st).bind fun u st => if u then b env st else .ok false st
def mOr (a b : MT) : MT := fun env st => (a env st).bind fun u st => if u then .ok true st else b env st
def mNot (a : MT) : MT := fun env st => (a env st).bind fun u st => .ok (!u) st
abbrev DW (X : Cx) (W : WX) (e : Expr) (m : MT) : Prop := PW X e (tT X.K W m)
theorem dw_and1 {a : Expr} {pos : Pos} {m : MT} (h : DT X W a m) : DW X W (.BoolOp .And [a] pos) m := pw_and1 h
theorem dw_or1 {a : Expr} {pos : Pos} {m : MT} (h : DT X W a m) : DW X W (.BoolOp .Or [a] pos) m := pw_or1 h
theorem dw_and {a b : Expr} {rest : List Expr} {pos : Pos} {m n : MT} (ha : DT X W a m) (hb : DW X W (.BoolOp .And (b :: rest) pos) n) : DW X W (.BoolOp .And (a :: b :: rest) pos) (mAnd m n) := by
  refine PW.weak (pw_and ha hb) ?_
  rintro σ H Q ⟨F, ρ, st, env, ⟨R, E⟩, p⟩
  refine ⟨F, ρ, st, env, ⟨R, E⟩, Post.bind p fun u st1 x F1 ρ1 H1 _ ev R1 i1 p1 => ?_⟩
  obtain rfl : x = u := i1
  cases x with
  | true => rw [if_pos rfl] at p1 ⊢; exact ⟨F1, ρ1, st1, env, ⟨R1, E.mono ev.fr ev.pre⟩, p1⟩
  | false => rw [if_neg Bool.false_ne_true] at p1 ⊢; exact p1.ok R1 rfl
theorem dw_or {a b : Expr} {rest : List Expr} {pos : Pos} {m n : MT} (ha : DT X W a m) (hb : DW X W (.BoolOp .Or (b :: rest) pos) n) : DW X W (.BoolOp .Or (a :: b :: rest) pos) (mOr m n) := by
  refine PW.weak (pw_or ha hb) ?_
  rintro σ H Q ⟨F, ρ, st, env, ⟨R, E⟩, p⟩
  refine ⟨F, ρ, st, env, ⟨R, E⟩, Post.bind p fun u st1 x F1 ρ1 H1 _ ev R1 i1 p1 => ?_⟩
  obtain rfl : x = u := i1
  cases x with
  | true => rw [if_pos rfl] at p1 ⊢; exact p1.ok R1 rfl
  | false => rw [if_neg Bool.false_ne_true] at p1 ⊢; exact ⟨F1, ρ1, st1, env, ⟨R1, E.mono ev.fr ev.pre⟩, p1⟩
theorem dt_w {e : Expr} {m : MT} (h : DW X W e m) : DT X W e m := h.pt
theorem dt_not {a : Expr} {pos : Pos} {m : MT} (ha : DT X W a m) : DT X W (.UnaryOp .Not a pos) (mNot m) := by
  refine PT.weak (pt_not ha) ?_
  rintro σ H Q ⟨F, ρ, st, env, ⟨R, E⟩, p⟩
  refine ⟨F, ρ, st, env, ⟨R, E⟩, Post.bind p fun u st1 x F1 ρ1 H1 _ ev R1 i1 p1 => ?_⟩
  obtain rfl : x = u := i1
  exact p1.ok R1 rfl
/-! as values -/
def mB (a : MT) : ME := fun env st => (a env st).bind fun b st => .ok (.d (.bool b)) st
def mAndV (a b : ME) : ME := fun env st => (a env st).bind fun u st => match u with
  | .d (.bool true) => b env st
  | .d (.bool false) => .ok (.d (.bool false)) st
  | _ => .bad
def mOrV (a b : ME) : ME := fun env st => (a env st).bind fun u st => match u with
  | .d (.bool true) => .ok (.d (.bool true)) st
  | .d (.bool false) => b env st
  | _ => .bad
def mNotV (a : ME) : ME := fun env st => (a env st).bind fun u st => match u with
  | .d (.bool b) => .ok (.d (.bool (!b))) st
  | _ => .bad
theorem de_one {a : Expr} {o : BoolOp} {pos : Pos} {m : ME} (h : DE X W a m) : DE X W (.BoolOp o [a] pos) m := pe_one h
theorem de_and {a b : Expr} {rest : List Expr} {pos : Pos} {m n : ME} (ha : DE X W a m) (hb : DE X W (.BoolOp .And (b :: rest) pos) n) : DE X W (.BoolOp .And (a :: b :: rest) pos) (mAndV m n) := by
  refine PE.weak (pe_and ha hb) ?_
  rintro σ H Q ⟨F, ρ, st, env, ⟨R, E⟩, p⟩
  refine ⟨F, ρ, st, env, ⟨R, E⟩, Post.bind p fun u st1 x F1 ρ1 H1 _ ev R1 i1 p1 => ?_⟩
  split at p1
  · exact ⟨true, i1.bl_inv, by rw [if_pos rfl]; exact ⟨F1, ρ1, st1, env, ⟨R1, E.mono ev.fr ev.pre⟩, p1⟩⟩
  · exact ⟨false, i1.bl_inv, by rw [if_neg Bool.false_ne_true]; exact p1.ok R1 (.d (.bl _))⟩
  · exact p1.elim
theorem de_or {a b : Expr} {rest : List Expr} {pos : Pos} {m n : ME} (ha : DE X W a m) (hb : DE X W (.BoolOp .Or (b :: rest) pos) n) : DE X W (.BoolOp .Or (a :: b :: rest) pos) (mOrV m n) := by
  refine PE.weak (pe_or ha hb) ?_
  rintro σ H Q ⟨F, ρ, st, env, ⟨R, E⟩, p⟩
  refine ⟨F, ρ, st, env, ⟨R, E⟩, Post.bind p fun u st1 x F1 ρ1 H1 _ ev R1 i1 p1 => ?_⟩
  split at p1
  · exact ⟨true, i1.bl_inv, by rw [if_pos rfl]; exact p1.ok R1 (.d (.bl _))⟩
  · exact ⟨false, i1.bl_inv, by rw [if_neg Bool.false_ne_true]; exact ⟨F1, ρ1, st1, env, ⟨R1, E.mono ev.fr ev.pre⟩, p1⟩⟩
  · exact p1.elim
theorem de_not {a : Expr} {pos : Pos} {m : ME} (ha : DE X W a m) : DE X W (.UnaryOp .Not a pos) (mNotV m) := by
  refine PE.weak (pe_not ha) ?_
  rintro σ H Q ⟨F, ρ, st, env, ⟨R, E⟩, p⟩
  refine ⟨F, ρ, st, env, ⟨R, E⟩, Post.bind p fun u st1 x F1 ρ1 H1 _ ev R1 i1 p1 => ?_⟩
  split at p1
  · exact ⟨_, i1.bl_inv, p1.ok R1 (.d (.bl _))⟩
  · exact p1.elim
def mIf (t : MT) (a b : ME) : ME := fun env st => (t env st).bind fun u st => if u then a env st else b env st
theorem de_if {c a b : Expr} {pos : Pos} {t : MT} {m n : ME} (hc : DT X W c t) (ha : DE X W a m) (hb : DE X W b n) : DE X W (.IfExp c a b pos) (mIf t m n) := by
  refine PE.weak (pe_ifExp hc ha hb) ?_
  rintro σ H Q ⟨F, ρ, st, env, ⟨R, E⟩, p⟩
  refine ⟨F, ρ, st, env, ⟨R, E⟩, Post.bind p fun u st1 x F1 ρ1 H1 _ ev R1 i1 p1 => ?_⟩
  obtain rfl : x = u := i1
  cases x with
  | true => rw [if_pos rfl] at p1 ⊢; exact ⟨F1, ρ1, st1, env, ⟨R1, E.mono ev.fr ev.pre⟩, p1⟩
  | false => rw [if_neg Bool.false_ne_true] at p1 ⊢; exact ⟨F1, ρ1, st1, env, ⟨R1, E.mono ev.fr ev.pre⟩, p1⟩
def mNeg (a : ME) : ME := fun env st => (a env st).bind fun u st => match u with
  | .d (.int i) => .ok (.d (.int (-i))) st
  | _ => .bad
theorem de_neg {a : Expr} {pos : Pos} {m : ME} (ha : DE X W a m) : DE X W (.UnaryOp .USub a pos) (mNeg m) := by
  refine PE.weak (pe_un un_neg ha) ?_
  rintro σ H Q ⟨F, ρ, st, env, ⟨R, E⟩, p⟩
  refine ⟨F, ρ, st, env, ⟨R, E⟩, Post.bind p fun u st1 x F1 ρ1 H1 _ ev R1 i1 p1 => ?_⟩
  split at p1
  · exact ⟨_, i1.int_inv, p1.ok R1 (.d (.int _))⟩
  · exact p1.elim

/-! ### comparisons of ints -/
def dRel (g : Int → Int → Bool) : U → U → Sto → EO U := fun u w st => match u, w with
  | .d (.int i), .d (.int j) => .ok (.d (.bool (g i j))) st
  | _, _ => .bad
theorem d2_rel {K : PySem.W.Frag} {g : Int → Int → Bool} : D2 K (rI0 fun i j => .bl (g i j)) (dRel g) := by
  intro W F ρ st σ H Q x y u w R i1 i2 p
  unfold dRel at p
  split at p
  · rw [i1.int_inv, i2.int_inv]
    exact ⟨_, _, rfl, rfl, p.ok R (.d (.bl _))⟩
  · exact p.elim
abbrev dLt := dRel fun i j => decide (i < j)
abbrev dLe := dRel fun i j => decide (i ≤ j)
abbrev dGt := dRel fun i j => decide (j < i)
abbrev dGe := dRel fun i j => decide (j ≤ i)
/-! ### equality -/
/-- an item as data, where it is such -/
def peek : U → Sto → Option PyData
  | .d x, _ => some x
  | .r n, st => match st[n]? with
    | some (.lst us) => (datas us).map .list
    | _ => none
  | _, _ => none
theorem peek_ok {K : PySem.W.Frag} {F : Hp} {ρ : List Addr} {st : Sto} {H : Hp} {v : V} {u : U} {x : PyData} (R : Rel K F ρ st H) (i : IR K F ρ v u) (h : peek u st = some x) : DR K H v x := by
  unfold peek at h
  split at h
  · cases h; cases i with | d i => exact i.mono R.sub
  · obtain ⟨a, rfl, ha⟩ := i.r_inv
    split at h
    · rename_i us hs
      obtain ⟨vs, h1, h2⟩ := R.ob _ _ _ ha hs
      cases e : datas us with
      | none => rw [e] at h; cases h
      | some xs =>
        rw [e] at h; cases h
        rw [datas_eq e] at h2
        exact .lst h1 ((IRs.datas h2).mono R.sub)
    · cases h
  · cases h
mutual
theorem DR.dp {K : PySem.W.Frag} {H : Hp} : ∀ {v : V} {x : PyData}, DR K H v x → x.canLay0 = true → Dp K H v x
  | _, _, .non, _ => .non
  | _, _, .bl b, _ => .bl b
  | _, _, .int i, _ => .int i
  | _, _, .str x, _ => .str x
  | _, _, .lst h r, c => .lst (.of h) (r.dp (by simpa [PyData.canLay0] using c))
  | _, _, .tup h r, c => .tup (.of h) (r.dp (by simpa [PyData.canLay0] using c))
  | _, _, .dK h r, c => by simp [PyData.canLay0] at c
  | _, _, .dT h r, c => by simp [PyData.canLay0] at c
theorem DRs.dp {K : PySem.W.Frag} {H : Hp} : ∀ {v : List V} {x : List PyData}, DRs K H v x → PyData.canLayAll0 x = true → DpAll K H v x
  | _, _, .nil, _ => .nil
  | _, _, .cons a b, c => by
    simp only [PyData.canLayAll0, Bool.and_eq_true] at c
    exact .cons (a.dp c.1) (b.dp c.2)
end
def dEq (neg : Bool) : U → U → Sto → EO U := fun u w st => match peek u st, peek w st with
  | some x, some y => if SeqAt.shaped x && SeqAt.shaped y then .ok (.d (.bool (if neg then !PyData.eqv x y else PyData.eqv x y))) st else .bad
  | _, _ => .bad
def rEqB (K : PySem.W.Frag) (neg : Bool) : R2 := fun x y H Q => ∃ d e, Dp K H x d ∧ Dp K H y e ∧ SeqAt.shaped d = true ∧ SeqAt.shaped e = true ∧ Q (.bl (if neg then !PyData.eqv d e else PyData.eqv d e)) H
theorem d2_eq {K : PySem.W.Frag} {neg : Bool} : D2 K (rEqB K neg) (dEq neg) := by
  intro W F ρ st σ H Q x y u w R i1 i2 p
  unfold dEq at p
  split at p
  · rename_i d e h1 h2
    split at p
    · rename_i c
      obtain ⟨c1, c2⟩ := Bool.and_eq_true_iff.mp c
      exact ⟨d, e, (peek_ok R i1 h1).dp (SeqAt.canLay_of_shaped c1), (peek_ok R i2 h2).dp (SeqAt.canLay_of_shaped c2), c1, c2, p.ok R (.d (.bl _))⟩
    · exact p.elim
  · exact p.elim
theorem op_eqB (hu : X.A.units + 64 < cLine) : OpR X (compareOp .Eq) (rEqB X.K false) := op_eqD hu
theorem op_neB (hu : X.A.units + 64 < cLine) : OpR X (compareOp .NotEq) (rEqB X.K true) := op_neD hu
/-! ### is None -/
def dIsN (neg : Bool) : U → U → Sto → EO U := fun u w st => match u, w with
  | .d x, .d .none => .ok (.d (.bool (match x with | .none => !neg | _ => neg))) st
  | .r _, .d .none => .ok (.d (.bool neg)) st
  | _, _ => .bad
theorem DR.non_iff {K : PySem.W.Frag} {F : Hp} {v : V} {x : PyData} (h : DR K F v x) : decide (v = .non) = (match x with | .none => true | _ => false) := by
  cases h <;> simp
theorem d2_isN {K : PySem.W.Frag} : D2 K (fun x y H Q => y = .non ∧ Q (.bl (decide (x = .non))) H) (dIsN false) := by
  intro W F ρ st σ H Q x y u w R i1 i2 p
  unfold dIsN at p
  split at p
  · rename_i d
    cases i1 with
    | d i1 =>
    cases i2 with
    | d i2 =>
    cases i2
    refine ⟨rfl, ?_⟩
    rw [i1.non_iff]
    refine p.ok R ?_
    cases d <;> exact .d (.bl _)
  · obtain ⟨a, rfl, ha⟩ := i1.r_inv
    cases i2 with
    | d i2 =>
    cases i2
    exact ⟨rfl, p.ok R (.d (.bl _))⟩
  · exact p.elim
theorem d2_notN {K : PySem.W.Frag} : D2 K (fun x y H Q => y = .non ∧ Q (.bl (!decide (x = .non))) H) (dIsN true) := by
  intro W F ρ st σ H Q x y u w R i1 i2 p
  unfold dIsN at p
  split at p
  · rename_i d
    cases i1 with
    | d i1 =>
    cases i2 with
    | d i2 =>
    cases i2
    refine ⟨rfl, ?_⟩
    rw [i1.non_iff]
    refine p.ok R ?_
    cases d <;> exact .d (.bl _)
  · obtain ⟨a, rfl, ha⟩ := i1.r_inv
    cases i2 with
    | d i2 =>
    cases i2
    exact ⟨rfl, p.ok R (.d (.bl _))⟩
  · exact p.elim
/-! ### sequences -/
def seqOf : U → Sto → Option (List U)
  | .d (.tuple xs), _ => some (xs.map .d)
  | .d (.list xs), _ => some (xs.map .d)
  | .r n, st => match st[n]? with
    | some (.lst us) => some us
    | _ => none
  | .s ns, _ => some (ns.map fun n => .d (.int n))
  | .k xs, _ => some (xs.map .d)
  | _, _ => none
theorem irs_ints {K : PySem.W.Frag} {F : Hp} {ρ : List Addr} (ns : List Int) : IRs K F ρ (ns.map V.int) (ns.map fun n => U.d (.int n)) := by
  induction ns with
  | nil => exact .nil
  | cons n r ih => exact .cons (.d (.int n)) ih
theorem seqOf_ok {K : PySem.W.Frag} {F : Hp} {ρ : List Addr} {st : Sto} {H : Hp} {v : V} {u : U} {us : List U} (R : Rel K F ρ st H) (i : IR K F ρ v u) (h : seqOf u st = some us) :
    ∃ a vs, v = .ref a ∧ (SqL K H a vs ∨ SqT K H a vs) ∧ IRs K F ρ vs us := by
  unfold seqOf at h
  split at h
  · cases h
    obtain ⟨a, vs, rfl, h1, h2⟩ := i.tup_inv
    exact ⟨a, vs, rfl, .inr (R.sub.sqT h1), h2.irs⟩
  · cases h
    obtain ⟨a, vs, rfl, h1, h2⟩ := i.lst_inv
    exact ⟨a, vs, rfl, .inl (.of (R.sub _ _ h1)), h2.irs⟩
  · obtain ⟨a, rfl, ha⟩ := i.r_inv
    split at h
    · rename_i us' hs
      cases h
      obtain ⟨vs, h1, h2⟩ := R.ob _ _ _ ha hs
      exact ⟨a, vs, rfl, .inl (.of h1), h2⟩
    · cases h
  · cases h
    cases i with
    | s i => exact ⟨_, _, rfl, .inl (R.sub.sqL i), irs_ints _⟩
  · cases h
    cases i with
    | k i j => exact ⟨_, _, rfl, .inr (R.sub.sqT i), j.irs⟩
  · cases h
theorem atI_irs {K : PySem.W.Frag} {F : Hp} {ρ : List Addr} {vs : List V} {us : List U} {i : Int} {u : U} (r : IRs K F ρ vs us) (h : atI us i = some u) : ∃ v, atI vs i = some v ∧ IR K F ρ v u := by
  unfold atI at h ⊢
  rw [IRs.length r]
  cases e : ixN us.length i with
  | none => rw [e] at h; cases h
  | some j =>
    rw [e] at h
    exact IRs.get r h
def dIx : U → U → Sto → EO U := fun u w st => match seqOf u st, w with
  | some us, .d (.int i) => match atI us i with
    | some z => .ok z st
    | none => .bad
  | _, _ => .bad
theorem d2_ix {K : PySem.W.Frag} : D2 K (rIx K) dIx := by
  intro W F ρ st σ H Q x y u w R i1 i2 p
  unfold dIx at p
  split at p
  · rename_i us i h
    split at p
    · rename_i z hz
      obtain ⟨a, vs, rfl, hs, r⟩ := seqOf_ok R i1 h
      rw [i2.int_inv]
      obtain ⟨v, hv, iv⟩ := atI_irs r hz
      rcases hs with hs | hs
      · exact .inl ⟨a, vs, i, v, rfl, rfl, hs, hv, p.ok R iv⟩
      · exact .inr (.inl ⟨a, vs, i, v, rfl, rfl, hs, hv, p.ok R iv⟩)
    · exact p.elim
  · exact p.elim
theorem de_ix {a b : Expr} {pos : Pos} {ma mb : ME} (ha : DE X W a ma) (hb : DE X W b mb) (hs : PlainIx b := by exact fun _ _ => rfl) : DE X W (.Subscript a b pos) (mBin dIx ma mb) :=
  PE.weak (pe_ix ix_seq ha hb hs) fun _ _ _ h => bin_go d2_ix h
/-- x in s, x not in s: flat things -/
def flatD : PyData → Bool
  | .none | .bool _ | .int _ | .str _ => true
  | _ => false
def eqD (x y : PyData) : Bool := PyData.eqv x y
end
end Dd

set_option Elab.async false
set_option linter.all false
set_option maxRecDepth 100000
set_option maxHeartbeats 1000000
/-! Displays, slices, freezing, built-in calls. -/
namespace Dd
open PySem PySem.Spec PyProof.Rows L2
section
variable {X : Cx} {W : WX}
/-! ### argument lists, displays -/
def mNil : MA := fun _ st => .ok [] st
def mCons (a : ME) (r : MA) : MA := fun env st => (a env st).bind fun u st1 => (r env st1).bind fun us st2 => .ok (u :: us) st2
theorem da_nil : DA X W [] mNil := by
  refine PA.weak pa_nil ?_
  rintro σ H Q ⟨F, ρ, st, env, ⟨R, E⟩, p⟩
  exact Post.ok (K := X.K) (W := W) (R := IRs X.K) R p .nil
theorem da_cons {e : Expr} {es : List Expr} {m : ME} {r : MA} (he : DE X W e m) (hr : DA X W es r) (hs : starEach (e :: es) X.env = (false, eval e X.env) :: starEach es X.env := by rfl) : DA X W (e :: es) (mCons m r) := by
  refine PA.weak (pa_cons he hr hs) ?_
  rintro σ H Q ⟨F, ρ, st, env, ⟨R, E⟩, p⟩
  refine ⟨F, ρ, st, env, ⟨R, E⟩, Post.bind p fun u st1 x F1 ρ1 H1 _ ev R1 i1 p1 => ?_⟩
  refine ⟨F1, ρ1, st1, env, ⟨R1, E.mono ev.fr ev.pre⟩, Post.bind p1 fun us st2 xs F2 ρ2 H2 _ ev2 R2 i2 p2 => ?_⟩
  exact p2.ok R2 (.cons (i1.mono ev2.fr ev2.pre) i2)
def mTup (a : MA) : ME := fun env st => (a env st).bind fun us st => match datas us with
  | some xs => if xs.length ≤ 10000000 then .ok (.d (.tuple xs)) st else .bad
  | none => .bad
theorem de_tup {es : List Expr} {k : Nat} {pos : Pos} {m : MA} (h : DA X W es m) : DE X W (.Tuple es k pos) (mTup m) := by
  refine PE.weak (pe_tup h) ?_
  rintro σ H Q ⟨F, ρ, st, env, ⟨R, E⟩, p⟩
  refine ⟨F, ρ, st, env, ⟨R, E⟩, Post.bind p fun us st1 vs F1 ρ1 H1 _ ev R1 i1 p1 => ?_⟩
  split at p1
  · rename_i xs h
    split at p1
    · rename_i hz
      rw [datas_eq h] at i1
      have i2 := IRs.datas i1
      exact ⟨line10 (by rw [i2.length]; exact hz), fun q hq => mkT_ok R1 i2 p1 hq⟩
    · exact p1.elim
  · exact p1.elim
def mLst (s : Bool) (a : MA) : ME := fun env st => (a env st).bind fun us st => if us.length ≤ 10000000 then mkL s us st else .bad
theorem de_lst {es : List Expr} {pos : Pos} {m : MA} (s : Bool) (h : DA X W es m) : DE X W (.List es pos) (mLst s m) := by
  refine PE.weak (pe_lst h) ?_
  rintro σ H Q ⟨F, ρ, st, env, ⟨R, E⟩, p⟩
  refine ⟨F, ρ, st, env, ⟨R, E⟩, Post.bind p fun us st1 vs F1 ρ1 H1 _ ev R1 i1 p1 => ?_⟩
  split at p1
  · rename_i hz
    exact ⟨line10 (by rw [IRs.length i1]; exact hz), fun q hq => mkL_ok R1 i1 p1 hq⟩
  · exact p1.elim
/-! ### in -/
def mapV : PyData → V
  | .none => .non
  | .bool b => .bl b
  | .int i => .int i
  | .str x => .str x
  | _ => .non
theorem flat_rep {K : PySem.W.Frag} {F : Hp} {v : V} {x : PyData} (h : DR K F v x) (f : flatD x = true) : v = mapV x ∧ flatV v = true := by
  cases h <;> first | exact ⟨rfl, rfl⟩ | exact absurd f Bool.false_ne_true
theorem eqV_mapV : ∀ (x y : PyData), flatD x = true → flatD y = true → eqV (mapV x) (mapV y) = PyData.eqv x y := by
  intro x y hx hy
  cases x <;> cases y <;> first | rfl | exact absurd hx Bool.false_ne_true | exact absurd hy Bool.false_ne_true | simp [eqV, mapV, PyData.eqv]
def dIn (neg : Bool) : U → U → Sto → EO U := fun u w st => match u, (seqOf w st).bind datas with
  | .d x, some ys => if flatD x && ys.all flatD then .ok (.d (.bool (if neg then !(ys.any fun y => PyData.eqv y x) else ys.any fun y => PyData.eqv y x))) st else .bad
  | _, _ => .bad
theorem flats_rep {K : PySem.W.Frag} {F : Hp} : ∀ {vs : List V} {xs : List PyData}, DRs K F vs xs → xs.all flatD = true → vs = xs.map mapV ∧ vs.all flatV = true
  | _, _, .nil, _ => ⟨rfl, rfl⟩
  | _, _, .cons a b, c => by
    simp only [List.all_cons, Bool.and_eq_true] at c
    obtain ⟨h1, h2⟩ := flat_rep a c.1
    obtain ⟨h3, h4⟩ := flats_rep b c.2
    exact ⟨by rw [List.map_cons, h1, h3], by simp only [List.all_cons, h2, h4, Bool.and_self]⟩
theorem inV_eq {x : PyData} (hx : flatD x = true) : ∀ {ys : List PyData}, ys.all flatD = true → inV (mapV x) (ys.map mapV) = ys.any fun y => PyData.eqv y x
  | [], _ => rfl
  | y :: r, h => by
    simp only [List.all_cons, Bool.and_eq_true] at h
    have ih := inV_eq hx h.2
    unfold inV at ih ⊢
    simp only [List.map_cons, List.any_cons, ih, eqV_mapV y x h.1 hx]
theorem d2_in {K : PySem.W.Frag} {neg : Bool} : D2 K (rIn K neg) (dIn neg) := by
  intro W F ρ st σ H Q x y u w R i1 i2 p
  unfold dIn at p
  split at p
  · rename_i d ys h
    split at p
    · rename_i c
      obtain ⟨c1, c2⟩ := Bool.and_eq_true_iff.mp c
      obtain ⟨us, hu, hd⟩ := Option.bind_eq_some_iff.mp h
      obtain ⟨a, vs, rfl, hs, r⟩ := seqOf_ok R i2 hu
      rw [datas_eq hd] at r
      obtain ⟨e1, f1⟩ := flats_rep (IRs.datas r) c2
      cases i1 with
      | d i1 =>
        obtain ⟨e2, f2⟩ := flat_rep i1 c1
        refine ⟨a, vs, rfl, hs, f2, f1, ?_⟩
        rw [e1, e2, inV_eq c1 c2]
        exact p.ok R (.d (.bl _))
    · exact p.elim
  · exact p.elim
/-! ### slices with bounds -/
abbrev MO := En → Sto → EO (Option Int)
def mNoPart : MO := fun _ st => .ok none st
def mPart (m : ME) : MO := fun env st => (m env st).bind fun u st => match u with
  | .d (.int i) => .ok (some i) st
  | _ => .bad
abbrev RO : Hp → List Addr → Option Int → Option Int → Prop := fun _ _ b a => b = a
def tOO (K : PySem.W.Frag) (W : WX) (m : MO) : TO := fun σ H Q => ∃ F ρ st env, Go K F ρ st env σ H ∧ Post K W F ρ σ H RO Q (m env st)
abbrev DO (X : Cx) (W : WX) (e : Option Expr) (m : MO) : Prop := PO X e (tOO X.K W m)
theorem PO.weak {X : Cx} {e : Option Expr} {t t' : TO} (h : PO X e t) (w : ∀ σ H Q, t' σ H Q → t σ H Q) : PO X e t' := ⟨fun pins s σ H Q I q => h.run pins s σ H Q I (w _ _ _ q)⟩
theorem do_none : DO X W none mNoPart := by
  refine PO.weak po_none ?_
  rintro σ H Q ⟨F, ρ, st, env, ⟨R, E⟩, p⟩
  exact Post.ok (K := X.K) (W := W) (R := RO) R p rfl
theorem do_some {e : Expr} {m : ME} (h : DE X W e m) : DO X W (some e) (mPart m) := by
  refine PO.weak (po_some h) ?_
  rintro σ H Q ⟨F, ρ, st, env, ⟨R, E⟩, p⟩
  refine ⟨F, ρ, st, env, ⟨R, E⟩, Post.bind p fun u st1 x F1 ρ1 H1 _ ev R1 i1 p1 => ?_⟩
  split at p1
  · exact ⟨_, i1.int_inv, p1.ok R1 rfl⟩
  · exact p1.elim
def cutL {α : Type} (xs : List α) (lo hi : Option Int) : List α := (xs.drop (HT.sIx xs.length 0 lo)).take (HT.sIx xs.length xs.length hi - HT.sIx xs.length 0 lo)
theorem DRs.cut {K : PySem.W.Frag} {F : Hp} {vs : List V} {xs : List PyData} (r : DRs K F vs xs) (lo hi : Option Int) : DRs K F (cutV vs lo hi) (cutL xs lo hi) := by
  unfold cutV cutL
  rw [r.length]
  exact (r.drop _).take _
theorem IRs.drop {K : PySem.W.Frag} {F : Hp} {ρ : List Addr} : ∀ {vs : List V} {xs : List U} (n : Nat), IRs K F ρ vs xs → IRs K F ρ (vs.drop n) (xs.drop n)
  | _, _, 0, h => h
  | _, _, _ + 1, .nil => .nil
  | _, _, n + 1, .cons _ b => IRs.drop n b
theorem IRs.take {K : PySem.W.Frag} {F : Hp} {ρ : List Addr} : ∀ {vs : List V} {xs : List U} (n : Nat), IRs K F ρ vs xs → IRs K F ρ (vs.take n) (xs.take n)
  | _, _, 0, _ => .nil
  | _, _, _ + 1, .nil => .nil
  | _, _, n + 1, .cons a b => .cons a (IRs.take n b)
theorem IRs.cut {K : PySem.W.Frag} {F : Hp} {ρ : List Addr} {vs : List V} {xs : List U} (r : IRs K F ρ vs xs) (lo hi : Option Int) : IRs K F ρ (cutV vs lo hi) (cutL xs lo hi) := by
  unfold cutV cutL
  rw [IRs.length r]
  exact IRs.take _ (IRs.drop _ r)
def dSl (s : Bool) (u : U) (lo hi : Option Int) (st : Sto) : EO U := match u with
  | .d (.tuple xs) => .ok (.d (.tuple (cutL xs lo hi))) st
  | .d (.list _) | .r _ | .s _ => match seqOf u st with
    | some us => mkL s (cutL us lo hi) st
    | none => .bad
  | _ => .bad
def mSl (s : Bool) (m : ME) (l h : MO) : ME := fun env st => (m env st).bind fun u st => (l env st).bind fun lo st => (h env st).bind fun hi st => dSl s u lo hi st
def rSlB (K : PySem.W.Frag) : V → Option Int → Option Int → Hp → VK → Prop := fun x lo hi H Q => rSlA K x lo hi H Q ∨ rSlL K x lo hi H Q
theorem cutV_whole {xs : List V} {lo hi : Option Int} (h : HT.sIx xs.length 0 lo = 0 ∧ HT.sIx xs.length xs.length hi = xs.length) : cutV xs lo hi = xs := by
  unfold cutV; rw [h.1, h.2]; simp
theorem seqOf_L {K : PySem.W.Frag} {F : Hp} {ρ : List Addr} {st : Sto} {H : Hp} {v : V} {u : U} {us : List U} (R : Rel K F ρ st H) (i : IR K F ρ v u) (h : seqOf u st = some us) (nt : (∀ xs, u ≠ .d (.tuple xs)) ∧ ∀ xs, u ≠ .k xs) :
    ∃ a vs, v = .ref a ∧ SqL K H a vs ∧ IRs K F ρ vs us := by
  unfold seqOf at h
  split at h
  · exact absurd rfl (nt.1 _)
  · cases h
    obtain ⟨a, vs, rfl, h1, h2⟩ := i.lst_inv
    exact ⟨a, vs, rfl, .of (R.sub _ _ h1), h2.irs⟩
  · obtain ⟨a, rfl, ha⟩ := i.r_inv
    split at h
    · rename_i us' hs
      cases h
      obtain ⟨vs, h1, h2⟩ := R.ob _ _ _ ha hs
      exact ⟨a, vs, rfl, .of h1, h2⟩
    · cases h
  · cases h
    cases i with
    | s i => exact ⟨_, _, rfl, R.sub.sqL i, irs_ints _⟩
  · exact absurd rfl (nt.2 _)
  · cases h
theorem de_sl {e : Expr} {lo hi : Option Expr} {p2 pos : Pos} {m : ME} {l h : MO} (s : Bool) (he : DE X W e m) (hl : DO X W lo l) (hh : DO X W hi h) : DE X W (.Subscript e (.Slice lo hi none p2) pos) (mSl s m l h) := by
  refine PE.weak (pe_slice (r := rSlB X.K) (SlR.or sl_tupA sl_list) he hl hh) ?_
  rintro σ H Q ⟨F, ρ, st, env, ⟨R, E⟩, p⟩
  refine ⟨F, ρ, st, env, ⟨R, E⟩, Post.bind p fun u st1 x F1 ρ1 H1 _ ev R1 i1 p1 => ?_⟩
  refine ⟨F1, ρ1, st1, env, ⟨R1, E.mono ev.fr ev.pre⟩, Post.bind p1 fun lo st2 lo' F2 ρ2 H2 _ ev2 R2 i2 p2 => ?_⟩
  refine ⟨F2, ρ2, st2, env, ⟨R2, (E.mono ev.fr ev.pre).mono ev2.fr ev2.pre⟩, Post.bind p2 fun hi st3 hi' F3 ρ3 H3 _ ev3 R3 i3 p3 => ?_⟩
  obtain rfl : lo' = lo := i2
  obtain rfl : hi' = hi := i3
  have j := (i1.mono ev2.fr ev2.pre).mono ev3.fr ev3.pre
  have lst : ∀ us, seqOf u st3 = some us → ((∀ xs, u ≠ .d (.tuple xs)) ∧ ∀ xs, u ≠ .k xs) → Post X.K W F3 ρ3 σ H3 (IR X.K) Q (mkL s (cutL us lo' hi') st3) → rSlB X.K x lo' hi' H3 Q := fun us hu nt q => by
    obtain ⟨a, vs, rfl, hs, r⟩ := seqOf_L R3 j hu nt
    exact .inr ⟨a, vs, rfl, hs, fun b hb => mkL_ok R3 (IRs.cut r _ _) q hb⟩
  unfold dSl at p3
  split at p3
  · obtain ⟨a, vs, rfl, h1, h2⟩ := j.tup_inv'
    refine .inl ⟨a, vs, rfl, .of (R3.sub _ _ h1), fun hw => ?_, fun _ q hq => mkT_ok R3 (h2.cut _ _) p3 hq⟩
    refine p3.ok R3 (.d (.tup h1 ?_))
    have := h2.cut lo' hi'
    rw [cutV_whole hw] at this
    exact this
  · split at p3
    · rename_i us hu; exact lst us hu ⟨fun _ z => (nomatch z), fun _ z => (nomatch z)⟩ p3
    · exact p3.elim
  · split at p3
    · rename_i us hu; exact lst us hu ⟨fun _ z => (nomatch z), fun _ z => (nomatch z)⟩ p3
    · exact p3.elim
  · split at p3
    · rename_i us hu; exact lst us hu ⟨fun _ z => (nomatch z), fun _ z => (nomatch z)⟩ p3
    · exact p3.elim
  · exact p3.elim
/-! ### freezing -/
def frz : U → Sto → EO U
  | .d x, st => .ok (.d x) st
  | .r n, st => match st[n]? with
    | some (.lst us) => match datas us with
      | some xs => .ok (.d (.list xs)) (st.set n .gone)
      | none => .bad
    | some (.dK kus) => match datas (kus.map (·.2)) with
      | some xs => .ok (.d (.dict ((kus.map fun q => kD q.1).zip xs))) (st.set n .gone)
      | none => .bad
    | some (.dT kus) => match datas (kus.map (·.2)) with
      | some xs => .ok (.d (.dict ((kus.map fun q => .tuple (q.1.map kD)).zip xs))) (st.set n .gone)
      | none => .bad
    | _ => .bad
  | _, _ => .bad
theorem drk_of {K : PySem.W.Frag} {F : Hp} {ρ : List Addr} : ∀ {kvs : List (Key × V)} {kus : List (Key × U)} {xs : List PyData}, Paired (fun (p : Key × V) (q : Key × U) => p.1 = q.1 ∧ IR K F ρ p.2 q.2) kvs kus → datas (kus.map (·.2)) = some xs →
    DRk K F kvs ((kus.map fun q => kD q.1).zip xs)
  | _, _, xs, .nil, h => by cases h; exact .nil
  | _, _, xs, .cons (a := (k, v)) (b := (k', u)) (l₁ := kvs) (l₂ := kus) a b, h => by
    obtain ⟨e, i⟩ := a
    dsimp only at e i
    subst e
    cases u with
    | d x =>
      have h' : (datas (kus.map (·.2))).map (x :: ·) = some xs := h
      cases q : datas (kus.map (·.2)) with
      | none => rw [q] at h'; cases h'
      | some ys =>
        rw [q] at h'; cases h'
        cases i with
        | d i => exact .cons i (drk_of b q)
    | _ => cases h
theorem drt_of {K : PySem.W.Frag} {F : Hp} {ρ : List Addr} : ∀ {kvs : List (List Key × V)} {kus : List (List Key × U)} {xs : List PyData}, Paired (fun (p : List Key × V) (q : List Key × U) => p.1 = q.1 ∧ IR K F ρ p.2 q.2) kvs kus → datas (kus.map (·.2)) = some xs →
    DRt K F kvs ((kus.map fun q => .tuple (q.1.map kD)).zip xs)
  | _, _, xs, .nil, h => by cases h; exact .nil
  | _, _, xs, .cons (a := (k, v)) (b := (k', u)) (l₁ := kvs) (l₂ := kus) a b, h => by
    obtain ⟨e, i⟩ := a
    dsimp only at e i
    subst e
    cases u with
    | d x =>
      have h' : (datas (kus.map (·.2))).map (x :: ·) = some xs := h
      cases q : datas (kus.map (·.2)) with
      | none => rw [q] at h'; cases h'
      | some ys =>
        rw [q] at h'; cases h'
        cases i with
        | d i => exact .cons i (drt_of b q)
    | _ => cases h
theorem frz_ok {K : PySem.W.Frag} {W : WX} {F : Hp} {ρ : List Addr} {st : Sto} {σ : L2.St} {H : Hp} {Q : VK} {v : V} {u : U} (R : Rel K F ρ st H) (i : IR K F ρ v u) (p : Post K W F ρ σ H (IR K) Q (frz u st)) : Q v H := by
  unfold frz at p
  split at p
  · exact p.ok R i
  · obtain ⟨a, rfl, ha⟩ := i.r_inv
    split at p
    · rename_i us hs
      split at p
      · rename_i xs hd
        obtain ⟨vs, h1, h2⟩ := R.ob _ _ _ ha hs
        rw [datas_eq hd] at h2
        have ev := Evo.freeze (o := .lst vs) R ha hs (fun z => nomatch z)
        exact p _ _ _ _ ev (R.freeze ha hs (fun z => nomatch z) h1) (.d (.lst upd_same ((IRs.datas h2).mono ev.fr)))
      · exact p.elim
    · rename_i kus hs
      split at p
      · rename_i xs hd
        obtain ⟨kvs, h1, h2⟩ := R.ob _ _ _ ha hs
        have ev := Evo.freeze (o := .dK kvs) R ha hs (fun z => nomatch z)
        exact p _ _ _ _ ev (R.freeze ha hs (fun z => nomatch z) h1) (.d (.dK upd_same ((drk_of h2 hd).mono ev.fr)))
      · exact p.elim
    · rename_i kus hs
      split at p
      · rename_i xs hd
        obtain ⟨kvs, h1, h2⟩ := R.ob _ _ _ ha hs
        have ev := Evo.freeze (o := .dT kvs) R ha hs (fun z => nomatch z)
        exact p _ _ _ _ ev (R.freeze ha hs (fun z => nomatch z) h1) (.d (.dT upd_same ((drt_of h2 hd).mono ev.fr)))
      · exact p.elim
    · exact p.elim
  · exact p.elim
def mFrz (m : ME) : ME := fun env st => (m env st).bind frz
theorem de_frz {e : Expr} {m : ME} (h : DE X W e m) : DE X W e (mFrz m) := by
  refine PE.weak h ?_
  rintro σ H Q ⟨F, ρ, st, env, ⟨R, E⟩, p⟩
  exact ⟨F, ρ, st, env, ⟨R, E⟩, Post.bind p fun u st1 x F1 ρ1 H1 _ ev R1 i1 p1 => frz_ok R1 i1 p1⟩

/-! ### built-in calls -/
def DC (K : PySem.W.Frag) (r : List V → Hp → VK → Prop) (f : List U → Sto → EO U) : Prop := ∀ {W : WX} {F : Hp} {ρ : List Addr} {st : Sto} {σ : L2.St} {H : Hp} {Q : VK} {vs : List V} {us : List U},
  Rel K F ρ st H → IRs K F ρ vs us → Post K W F ρ σ H (IR K) Q (f us st) → r vs H Q
def mC (f : List U → Sto → EO U) (m : MA) : ME := fun env st => (m env st).bind f
theorem call_go {r : List V → Hp → VK → Prop} {f : List U → Sto → EO U} {m : MA} (hr : DC X.K r f) {σ : L2.St} {H : Hp} {Q : VK} (h : tE X.K W (mC f m) σ H Q) : tCB r (tA X.K W m) σ H Q := by
  obtain ⟨F, ρ, st, env, ⟨R, E⟩, p⟩ := h
  exact ⟨F, ρ, st, env, ⟨R, E⟩, Post.bind p fun us st1 vs F1 ρ1 H1 _ ev R1 i1 p1 => hr R1 i1 p1⟩
theorem de_callB {x : Str} {p pos : Pos} {e : Expr} {es : List Expr} {id : String} {r : List V → Hp → VK → Prop} {f : List U → Sto → EO U} {m : MA} (hc : CallR X (.builtin id) r) (hr : DC X.K r f) (hg : Gl X x) (hm : X.mg x = none) (hv : bootBuiltins x = some (.builtin id)) (ha : DA X W (e :: es) m)
    (hn : x ≠ "__name__" := by decide) (hdb : (x == ("__debug__" : Str)) = false := by decide) (he : starEach (e :: es) X.env = (false, eval e X.env) :: starEach es X.env := by rfl) (hpl : (backTo pos (starEach es X.env)).any (·.1) = false := by rfl) :
    DE X W (.Call (.Name x p) (e :: es) [] pos) (mC f m) := PE.weak (pe_callB hc hg hm hv ha hn hdb he hpl) fun _ _ _ h => call_go hr h
theorem de_callTy {x : Str} {p pos : Pos} {e : Expr} {es : List Expr} {T : String} {r : List V → Hp → VK → Prop} {f : List U → Sto → EO U} {m : MA} (hc : CallR X (.type T) r) (hr : DC X.K r f) (hg : Gl X x) (hm : X.mg x = none) (hv : bootBuiltins x = some (.type T)) (ha : DA X W (e :: es) m)
    (hn : x ≠ "__name__" := by decide) (hdb : (x == ("__debug__" : Str)) = false := by decide) (he : starEach (e :: es) X.env = (false, eval e X.env) :: starEach es X.env := by rfl) (hpl : (backTo pos (starEach es X.env)).any (·.1) = false := by rfl) :
    DE X W (.Call (.Name x p) (e :: es) [] pos) (mC f m) := PE.weak (pe_callTy hc hg hm hv ha hn hdb he hpl) fun _ _ _ h => call_go hr h

theorem IRs.one_inv {K : PySem.W.Frag} {F : Hp} {ρ : List Addr} {vs : List V} {u : U} (h : IRs K F ρ vs [u]) : ∃ v, vs = [v] ∧ IR K F ρ v u := by
  cases h with | cons a b => cases b; exact ⟨_, rfl, a⟩
theorem IRs.two_inv {K : PySem.W.Frag} {F : Hp} {ρ : List Addr} {vs : List V} {u w : U} (h : IRs K F ρ vs [u, w]) : ∃ v v', vs = [v, v'] ∧ IR K F ρ v u ∧ IR K F ρ v' w := by
  cases h with | cons a b => cases b with | cons c d => cases d; exact ⟨_, _, rfl, a, c⟩
/-- len -/
def fLen : List U → Sto → EO U
  | [.d (.str x)], st => if x.length ≤ 10000000 then .ok (.d (.int x.length)) st else .bad
  | [u], st => match seqOf u st with
    | some us => .ok (.d (.int us.length)) st
    | none => .bad
  | _, _ => .bad
theorem dc_len {K : PySem.W.Frag} : DC K (fun xs H Q => ∃ x n, xs = [x] ∧ LenV K x H n ∧ Q (.int n) H) fLen := by
  intro W F ρ st σ H Q vs us R i p
  unfold fLen at p
  split at p
  · split at p
    · rename_i hz
      obtain ⟨v, rfl, i1⟩ := i.one_inv
      rw [i1.str_inv]
      exact ⟨_, _, rfl, ⟨line10 hz, rfl⟩, p.ok R (.d (.int _))⟩
    · exact p.elim
  · split at p
    · rename_i us' hs
      obtain ⟨v, rfl, i1⟩ := i.one_inv
      obtain ⟨a, vs, rfl, hs, r⟩ := seqOf_ok R i1 hs
      have e := IRs.length r
      refine ⟨_, vs.length, rfl, ?_, by rw [e]; exact p.ok R (.d (.int _))⟩
      rcases hs with hs | hs
      · exact .inl ⟨vs, hs, rfl⟩
      · exact .inr ⟨vs, hs, rfl⟩
    · exact p.elim
  · exact p.elim
/-- tuple(x) -/
def fTuple : List U → Sto → EO U
  | [.d (.tuple xs)], st => .ok (.d (.tuple xs)) st
  | [.k _], _ => .bad
  | [u], st => match (seqOf u st).bind datas with
    | some xs => .ok (.d (.tuple xs)) st
    | none => .bad
  | _, _ => .bad
theorem dc_tuple {K : PySem.W.Frag} : DC K (fun xs H Q => ∃ p ys, xs = [.ref p] ∧ ((SqL K H p ys ∧ ∀ l, H l = none → Q (.ref l) (upd H l (.tup ys))) ∨ (SqT K H p ys ∧ Q (.ref p) H))) fTuple := by
  intro W F ρ st σ H Q vs us R i p
  unfold fTuple at p
  split at p
  · obtain ⟨v, rfl, i1⟩ := i.one_inv
    obtain ⟨a, vs, rfl, h1, h2⟩ := i1.tup_inv
    exact ⟨a, vs, rfl, .inr ⟨R.sub.sqT h1, p.ok R i1⟩⟩
  · exact p.elim
  · rename_i u nt nk
    split at p
    · rename_i xs h
      obtain ⟨us', hu, hd⟩ := Option.bind_eq_some_iff.mp h
      obtain ⟨v, rfl, i1⟩ := i.one_inv
      obtain ⟨a, vs, rfl, hs, r⟩ := seqOf_L R i1 hu ⟨fun xs e => nt xs e, fun xs e => nk xs e⟩
      rw [datas_eq hd] at r
      exact ⟨a, vs, rfl, .inl ⟨hs, fun l hl => mkT_ok R (IRs.datas r) p hl⟩⟩
    · exact p.elim
  · exact p.elim
/-- list(x) -/
def fList (s : Bool) : List U → Sto → EO U
  | [u], st => match seqOf u st with
    | some us => mkL s us st
    | none => .bad
  | _, _ => .bad
theorem dc_list {K : PySem.W.Frag} {s : Bool} : DC K (fun xs H Q => ∃ p ys, xs = [.ref p] ∧ (SqL K H p ys ∨ SqT K H p ys) ∧ ∀ l, H l = none → Q (.ref l) (upd H l (.lst ys))) (fList s) := by
  intro W F ρ st σ H Q vs us R i p
  unfold fList at p
  split at p
  · split at p
    · rename_i us' hs
      obtain ⟨v, rfl, i1⟩ := i.one_inv
      obtain ⟨a, vs, rfl, hs, r⟩ := seqOf_ok R i1 hs
      exact ⟨a, vs, rfl, hs, fun l hl => mkL_ok R r p hl⟩
    · exact p.elim
  · exact p.elim
/-- int(x) -/
def fInt : List U → Sto → EO U
  | [.d (.int i)], st => .ok (.d (.int i)) st
  | [.d (.bool b)], st => .ok (.d (.int (if b then 1 else 0))) st
  | _, _ => .bad
theorem dc_int {K : PySem.W.Frag} : DC K (fun xs H Q => (∃ i, xs = [.int i] ∧ Q (.int i) H) ∨ ∃ k, xs = [.bl k] ∧ Q (.int (if k then 1 else 0)) H) fInt := by
  intro W F ρ st σ H Q vs us R i p
  unfold fInt at p
  split at p
  · obtain ⟨v, rfl, i1⟩ := i.one_inv
    exact .inl ⟨_, by rw [i1.int_inv], p.ok R (.d (.int _))⟩
  · obtain ⟨v, rfl, i1⟩ := i.one_inv
    exact .inr ⟨_, by rw [i1.bl_inv], p.ok R (.d (.int _))⟩
  · exact p.elim
/-- max, min of two ints -/
def fMax2 : List U → Sto → EO U
  | [.d (.int i), .d (.int j)], st => .ok (.d (.int (if j > i then j else i))) st
  | _, _ => .bad
def fMin2 : List U → Sto → EO U
  | [.d (.int i), .d (.int j)], st => .ok (.d (.int (if j < i then j else i))) st
  | _, _ => .bad
theorem dc_max2 {K : PySem.W.Frag} : DC K (fun xs H Q => ∃ i j, xs = [.int i, .int j] ∧ Q (.int (if j > i then j else i)) H) fMax2 := by
  intro W F ρ st σ H Q vs us R i p
  unfold fMax2 at p
  split at p
  · obtain ⟨v, v', rfl, i1, i2⟩ := i.two_inv
    exact ⟨_, _, by rw [i1.int_inv, i2.int_inv], p.ok R (.d (.int _))⟩
  · exact p.elim
theorem dc_min2 {K : PySem.W.Frag} : DC K (fun xs H Q => ∃ i j, xs = [.int i, .int j] ∧ Q (.int (if j < i then j else i)) H) fMin2 := by
  intro W F ρ st σ H Q vs us R i p
  unfold fMin2 at p
  split at p
  · obtain ⟨v, v', rfl, i1, i2⟩ := i.two_inv
    exact ⟨_, _, by rw [i1.int_inv, i2.int_inv], p.ok R (.d (.int _))⟩
  · exact p.elim
/-- abs -/
def fAbs : List U → Sto → EO U
  | [.d (.int i)], st => .ok (.d (.int (if i < 0 then -i else i))) st
  | _, _ => .bad
theorem dc_abs {K : PySem.W.Frag} : DC K (fun xs H Q => ∃ i, xs = [.int i] ∧ Q (.int (if i < 0 then -i else i)) H) fAbs := by
  intro W F ρ st σ H Q vs us R i p
  unfold fAbs at p
  split at p
  · obtain ⟨v, rfl, i1⟩ := i.one_inv
    exact ⟨_, by rw [i1.int_inv], p.ok R (.d (.int _))⟩
  · exact p.elim
/-- all, any of a list of truth values; sum of ints -/
def bools : List U → Option (List Bool)
  | [] => some []
  | .d (.bool b) :: r => (bools r).map (b :: ·)
  | _ :: _ => none
theorem bools_rep {K : PySem.W.Frag} {F : Hp} {ρ : List Addr} : ∀ {vs : List V} {us : List U} {bs : List Bool}, IRs K F ρ vs us → bools us = some bs → vs = bs.map V.bl
  | _, _, bs, .nil, h => by cases h; rfl
  | _, _, bs, .cons (b := u) (l₂ := us) a b, h => by
    cases u with
    | d x =>
      cases x with
      | bool k =>
        have h' : (bools us).map (k :: ·) = some bs := h
        cases q : bools us with
        | none => rw [q] at h'; cases h'
        | some cs =>
          rw [q] at h'; cases h'
          rw [a.bl_inv, bools_rep b q]; rfl
      | _ => cases h
    | _ => cases h
def intsU : List U → Option (List Int)
  | [] => some []
  | .d (.int b) :: r => (intsU r).map (b :: ·)
  | _ :: _ => none
theorem intsU_rep {K : PySem.W.Frag} {F : Hp} {ρ : List Addr} : ∀ {vs : List V} {us : List U} {bs : List Int}, IRs K F ρ vs us → intsU us = some bs → vs = bs.map V.int
  | _, _, bs, .nil, h => by cases h; rfl
  | _, _, bs, .cons (b := u) (l₂ := us) a b, h => by
    cases u with
    | d x =>
      cases x with
      | int k =>
        have h' : (intsU us).map (k :: ·) = some bs := h
        cases q : intsU us with
        | none => rw [q] at h'; cases h'
        | some cs =>
          rw [q] at h'; cases h'
          rw [a.int_inv, intsU_rep b q]; rfl
      | _ => cases h
    | _ => cases h
def isL : U → Bool
  | .d (.list _) | .r _ | .s _ => true
  | _ => false
theorem isL_nt {u : U} (h : isL u = true) : (∀ xs, u ≠ .d (.tuple xs)) ∧ ∀ xs, u ≠ .k xs := ⟨fun _ e => (by subst e; cases h), fun _ e => (by subst e; cases h)⟩
def fAll : List U → Sto → EO U
  | [u], st => match (seqOf u st).bind bools with
    | some bs => if isL u then .ok (.d (.bool (bs.all id))) st else .bad
    | none => .bad
  | _, _ => .bad
def fAny : List U → Sto → EO U
  | [u], st => match (seqOf u st).bind bools with
    | some bs => if isL u then .ok (.d (.bool (bs.any id))) st else .bad
    | none => .bad
  | _, _ => .bad
theorem dc_all {K : PySem.W.Frag} : DC K (rAll K) fAll := by
  intro W F ρ st σ H Q vs us R i p
  unfold fAll at p
  split at p
  · split at p
    · rename_i bs h
      split at p
      · rename_i hl
        obtain ⟨us', hu, hb⟩ := Option.bind_eq_some_iff.mp h
        obtain ⟨v, rfl, i1⟩ := i.one_inv
        obtain ⟨a, vs, rfl, hs, r⟩ := seqOf_L R i1 hu (isL_nt hl)
        rw [bools_rep r hb] at hs
        exact ⟨a, bs, rfl, hs, p.ok R (.d (.bl _))⟩
      · exact p.elim
    · exact p.elim
  · exact p.elim
theorem dc_any {K : PySem.W.Frag} : DC K (rAny K) fAny := by
  intro W F ρ st σ H Q vs us R i p
  unfold fAny at p
  split at p
  · split at p
    · rename_i bs h
      split at p
      · rename_i hl
        obtain ⟨us', hu, hb⟩ := Option.bind_eq_some_iff.mp h
        obtain ⟨v, rfl, i1⟩ := i.one_inv
        obtain ⟨a, vs, rfl, hs, r⟩ := seqOf_L R i1 hu (isL_nt hl)
        rw [bools_rep r hb] at hs
        exact ⟨a, bs, rfl, hs, p.ok R (.d (.bl _))⟩
      · exact p.elim
    · exact p.elim
  · exact p.elim
def fSum : List U → Sto → EO U
  | [u], st => match (seqOf u st).bind intsU with
    | some ns => if isL u then .ok (.d (.int ns.sum)) st else .bad
    | none => .bad
  | _, _ => .bad
theorem dc_sum {K : PySem.W.Frag} : DC K (rSum K) fSum := by
  intro W F ρ st σ H Q vs us R i p
  unfold fSum at p
  split at p
  · split at p
    · rename_i bs h
      split at p
      · rename_i hl
        obtain ⟨us', hu, hb⟩ := Option.bind_eq_some_iff.mp h
        obtain ⟨v, rfl, i1⟩ := i.one_inv
        obtain ⟨a, vs, rfl, hs, r⟩ := seqOf_L R i1 hu (isL_nt hl)
        rw [intsU_rep r hb] at hs
        exact ⟨a, bs, rfl, hs, p.ok R (.d (.int _))⟩
      · exact p.elim
    · exact p.elim
  · exact p.elim
/-- isinstance(x, T), T a built-in class -/
def tyN : PyData → String
  | .none => "NoneType" | .bool _ => "bool" | .int _ => "int" | .str _ => "str" | .list _ => "list" | .tuple _ => "tuple" | .dict _ => "dict"
theorem DR.tyX {K : PySem.W.Frag} {H : Hp} {v : V} {x : PyData} (h : DR K H v x) : TyX K H v (.type (tyN x)) := by
  cases h with
  | non => exact .base .non
  | bl b => exact .base (.bl b)
  | int i => exact .base (.int i)
  | str x => exact .base (.str x)
  | lst h _ => exact .base (.lst h)
  | tup h _ => exact .base (.tup h)
  | dK h _ => exact .base (.dK h)
  | dT h _ => exact .base (.dT h)
def mIs (T : String) (m : ME) : ME := fun env st => (m env st).bind fun u st => match u with
  | .d x => match kitB (tyN x) T with
    | some b => .ok (.d (.bool b)) st
    | none => .bad
  | _ => .bad
theorem de_is {a : Expr} {T : Str} {TS : String} {p p2 pos : Pos} {m : ME} (hg : Gl X "isinstance") (hm : X.mg "isinstance" = none) (hg2 : Gl X T) (hm2 : X.mg T = none) (hv2 : bootBuiltins T = some (.type TS)) (ha : DE X W a m)
    (hs : starEach [a, .Name T p2] X.env = (false, eval a X.env) :: starEach [.Name T p2] X.env := by rfl) (hs2 : starEach [.Name T p2] X.env = (false, eval (.Name T p2) X.env) :: starEach [] X.env := by rfl) (hpl : (backTo pos (starEach [.Name T p2] X.env)).any (·.1) = false := by rfl)
    (hn : T ≠ "__name__" := by decide) (hdb : (T == ("__debug__" : Str)) = false := by decide) :
    DE X W (.Call (.Name "isinstance" p) [a, .Name T p2] [] pos) (mIs TS m) := by
  have hT : PE X (.Name T p2) (tC (.ty TS)) := pe_bltn hg2 hm2 hv2 rfl hn hdb
  refine PE.weak (pe_callB call_isi hg hm (by decide +kernel) (pa_cons ha (pa_cons hT pa_nil hs2) hs) (by decide) (by decide) hs hpl) ?_
  rintro σ H Q ⟨F, ρ, st, env, ⟨R, E⟩, p⟩
  refine ⟨F, ρ, st, env, ⟨R, E⟩, Post.bind p fun u st1 x F1 ρ1 H1 _ ev R1 i1 p1 => ?_⟩
  split at p1
  · rename_i d
    split at p1
    · rename_i b hb
      cases i1 with
      | d i1 => exact ⟨x, .ty TS, _, _, b, rfl, .ty TS, (i1.mono R1.sub).tyX, kit_ty hb, p1.ok R1 (.d (.bl _))⟩
    · exact p1.elim
  · exact p1.elim
end
end Dd

set_option Elab.async false
set_option linter.all false
set_option maxRecDepth 100000
set_option maxHeartbeats 1000000
/-! Statements, targets, loops, comprehensions. -/
namespace Dd
open PySem PySem.Spec PyProof.Rows L2

def PostS (K : PySem.W.Frag) (W : WX) (F : Hp) (ρ : List Addr) (H : Hp) (D : Ends) : SO → Prop
  | .nx env' st' => ∀ σ' F' ρ' H', Evo F ρ H F' ρ' H' → Go K F' ρ' st' env' σ' H' → D.nx σ' H'
  | .rt u st' => ∀ v F' ρ' H', Evo F ρ H F' ρ' H' → Rel K F' ρ' st' H' → IR K F' ρ' v u → D.rt v H'
  | .bk env' st' => ∀ σ' F' ρ' H', Evo F ρ H F' ρ' H' → Go K F' ρ' st' env' σ' H' → D.bk σ' H'
  | .ct env' st' => ∀ σ' F' ρ' H', Evo F ρ H F' ρ' H' → Go K F' ρ' st' env' σ' H' → D.ct σ' H'
  | .ex x env' st' => ∀ cls d σ' F' ρ' H', Evo F ρ H F' ρ' H' → Go K F' ρ' st' env' σ' H' → XR K F' x cls d → W cls d σ' H'
  | .bad => False
def tS (K : PySem.W.Frag) (W : WX) (m : MS) : TS := fun D σ H => ∃ F ρ st env, Go K F ρ st env σ H ∧ PostS K W F ρ H D (m env st)
abbrev DS (X : Cx) (W : WX) (s : Stmt) (m : MS) : Prop := PS X s (tS X.K W m)
abbrev DSs (X : Cx) (W : WX) (s : List Stmt) (m : MS) : Prop := PSs X s (tS X.K W m)

section
variable {K : PySem.W.Frag} {W : WX} {F F1 : Hp} {ρ ρ1 : List Addr} {σ : L2.St} {H H1 : Hp} {st : Sto} {env : En} {D : Ends}
theorem PostS.step {m : SO} (ev : Evo F ρ H F1 ρ1 H1) (h : PostS K W F ρ H D m) : PostS K W F1 ρ1 H1 D m := by
  cases m with
  | nx a st' => exact fun b F' ρ' H' e r => h b F' ρ' H' (ev.trans e) r
  | bk a st' => exact fun b F' ρ' H' e r => h b F' ρ' H' (ev.trans e) r
  | ct a st' => exact fun b F' ρ' H' e r => h b F' ρ' H' (ev.trans e) r
  | rt a st' => exact fun b F' ρ' H' e r q => h b F' ρ' H' (ev.trans e) r q
  | ex x a st' => exact fun c d b F' ρ' H' e r q => h c d b F' ρ' H' (ev.trans e) r q
  | bad => exact h
/-- an expression, then the rest of a statement -/
def EO.thenS {α : Type} (m : EO α) (env : En) (f : α → Sto → SO) : SO := match m with
  | .ok a st => f a st
  | .ex x st => .ex x env st
  | .bad => .bad
theorem PostS.bind {α β : Type} {R : Hp → List Addr → β → α → Prop} {Q : β → Hp → Prop} {m : EO α} {f : α → Sto → SO} (E : EnR K F ρ σ env) (h : PostS K W F ρ H D (m.thenS env f))
    (k : ∀ a st b F1 ρ1 H1, m = .ok a st → Evo F ρ H F1 ρ1 H1 → Rel K F1 ρ1 st H1 → R F1 ρ1 b a → PostS K W F1 ρ1 H1 D (f a st) → Q b H1) : Post K W F ρ σ H R Q m := by
  cases m with
  | ok a st' => exact fun b F' ρ' H' e r q => k a st' b F' ρ' H' rfl e r q (PostS.step e h)
  | ex x st' => exact fun c d F' ρ' H' e r q => h c d σ F' ρ' H' e ⟨r, E.mono e.fr e.pre⟩ q
  | bad => exact h
theorem PostS.nx (h : PostS K W F ρ H D (.nx env st)) (g : Go K F ρ st env σ H) : D.nx σ H := h σ F ρ H Evo.refl g
theorem EnR.set {i : Nat} {v : V} {u : U} (E : EnR K F ρ σ env) (i1 : IR K F ρ v u) : EnR K F ρ (σ.set i (some v)) (env.set i (some u)) := by
  refine ⟨by simp [E.1], fun j w h => ?_⟩
  by_cases e : i = j
  · subst e
    by_cases hi : i < env.length
    · rw [List.getElem?_set_self hi] at h
      cases h
      exact ⟨v, List.getElem?_set_self (by rw [← E.1]; exact hi), i1⟩
    · rw [List.getElem?_eq_none (by simpa using hi)] at h; cases h
  · rw [List.getElem?_set_ne e] at h
    obtain ⟨x, h1, h2⟩ := E.2 j w h
    exact ⟨x, by rw [List.getElem?_set_ne e]; exact h1, h2⟩
/-! ### slots wiped -/
def wipeE (env : En) : List Nat → En
  | [] => env
  | v :: vs => (wipeE env vs).set v none
theorem wipeE_length (env : En) : ∀ vs : List Nat, (wipeE env vs).length = env.length
  | [] => rfl
  | v :: vs => by unfold wipeE; rw [List.length_set, wipeE_length env vs]
theorem wipeE_some {env : En} {i : Nat} {x : U} : ∀ {vs : List Nat}, (wipeE env vs)[i]? = some (some x) → env[i]? = some (some x) ∧ i ∉ vs
  | [], h => ⟨h, by simp⟩
  | v :: vs, h => by
    unfold wipeE at h
    by_cases hi : v = i
    · subst hi
      by_cases hv : v < (wipeE env vs).length
      · rw [List.getElem?_set_self hv] at h; cases h
      · rw [List.getElem?_eq_none (by simpa using hv)] at h; cases h
    · rw [List.getElem?_set_ne hi] at h
      obtain ⟨h1, h2⟩ := wipeE_some h
      exact ⟨h1, by simp only [List.mem_cons, not_or]; exact ⟨fun e => hi e.symm, h2⟩⟩
theorem wipe_keep {σ : L2.St} {i : Nat} : ∀ {vs : List Nat}, i ∉ vs → (wipe σ vs)[i]? = σ[i]?
  | [], _ => rfl
  | v :: vs, h => by
    simp only [List.mem_cons, not_or] at h
    unfold wipe
    rw [List.getElem?_set_ne (fun e => h.1 e.symm)]
    exact wipe_keep h.2
theorem EnR.wipe {vs : List Nat} (E : EnR K F ρ σ env) : EnR K F ρ (wipe σ vs) (wipeE env vs) := by
  refine ⟨by rw [wipe_length, wipeE_length]; exact E.1, fun i u h => ?_⟩
  obtain ⟨h1, h2⟩ := wipeE_some h
  obtain ⟨v, h3, h4⟩ := E.2 i u h1
  exact ⟨v, by rw [wipe_keep h2]; exact h3, h4⟩
theorem wipe_in {σ : L2.St} {i : Nat} : ∀ {vs : List Nat}, i ∈ vs → (wipe σ vs)[i]? = if i < σ.length then some none else none
  | [], h => absurd h (by simp)
  | v :: vs, h => by
    unfold wipe
    by_cases e : v = i
    · subst e
      by_cases hl : v < σ.length
      · rw [List.getElem?_set_self (by rw [wipe_length]; exact hl), if_pos hl]
      · rw [List.getElem?_eq_none (by rw [List.length_set, wipe_length]; omega), if_neg hl]
    · rw [List.getElem?_set_ne e]
      rcases List.mem_cons.mp h with q | q
      · exact absurd q.symm e
      · exact wipe_in q
theorem wipe_set {σ : L2.St} {i : Nat} {x : Option V} {vs : List Nat} (h : i ∈ vs) : wipe (σ.set i x) vs = wipe σ vs := by
  apply List.ext_getElem?
  intro j
  by_cases hj : j ∈ vs
  · rw [wipe_in hj, wipe_in hj, List.length_set]
  · rw [wipe_keep hj, wipe_keep hj, List.getElem?_set_ne]
    intro e; subst e; exact hj h
theorem wipe_wipe {σ : L2.St} {vs : List Nat} : wipe (wipe σ vs) vs = wipe σ vs := by
  apply List.ext_getElem?
  intro j
  by_cases hj : j ∈ vs
  · rw [wipe_in hj, wipe_in hj, wipe_length]
  · rw [wipe_keep hj]
theorem wipe_mono {σ τ : L2.St} {vs ws : List Nat} (h : wipe σ vs = wipe τ vs) (hs : ∀ i ∈ vs, i ∈ ws) : wipe σ ws = wipe τ ws := by
  have hl : σ.length = τ.length := by
    have := congrArg List.length h
    rw [wipe_length, wipe_length] at this
    exact this
  apply List.ext_getElem?
  intro j
  by_cases hj : j ∈ ws
  · rw [wipe_in hj, wipe_in hj, hl]
  · rw [wipe_keep hj, wipe_keep hj]
    have hv : j ∉ vs := fun z => hj (hs j z)
    rw [← wipe_keep (σ := σ) hv, ← wipe_keep (σ := τ) hv, h]
end

section
variable {X : Cx} {W : WX}
/-! ### blocks -/
def mSkip : MS := fun env st => .nx env st
def mSeq (a b : MS) : MS := fun env st => match a env st with
  | .nx env' st' => b env' st'
  | o => o
theorem ds_nil : DSs X W [] mSkip := by
  refine PSs.weak pss_nil ?_
  rintro D σ H ⟨F, ρ, st, env, g, p⟩
  exact p.nx g
theorem ds_cons {s : Stmt} {r : List Stmt} {m n : MS} (h1 : DS X W s m) (h2 : DSs X W r n) : DSs X W (s :: r) (mSeq m n) := by
  refine PSs.weak (pss_cons h1 h2) ?_
  rintro D σ H ⟨F, ρ, st, env, g, p⟩
  refine ⟨F, ρ, st, env, g, ?_⟩
  unfold mSeq at p
  cases e : m env st with
  | nx env' st' =>
    rw [e] at p
    exact fun σ' F' ρ' H' ev g' => ⟨F', ρ', st', env', g', PostS.step ev p⟩
  | _ => rw [e] at p; exact p
theorem ds_pass {pos : Pos} : DS X W (.Pass pos) mSkip := by
  refine PS.weak ps_pass ?_
  rintro D σ H ⟨F, ρ, st, env, g, p⟩
  exact p.nx g
theorem ds_break {pos : Pos} : DS X W (.Break pos) (fun env st => .bk env st) := by
  refine PS.weak ps_break ?_
  rintro D σ H ⟨F, ρ, st, env, g, p⟩
  exact p σ F ρ H Evo.refl g
def mExpr (m : ME) : MS := fun env st => (m env st).thenS env fun _ st => .nx env st
theorem ds_expr {e : Expr} {pos : Pos} {m : ME} (h : DE X W e m) (hs : swapsWith e none pos.line X.env = pure false := by rfl) : DS X W (.Expr e pos) (mExpr m) := by
  refine PS.weak (ps_expr h hs) ?_
  rintro D σ H ⟨F, ρ, st, env, ⟨R, E⟩, p⟩
  refine ⟨F, ρ, st, env, ⟨R, E⟩, PostS.bind E p fun u st1 x F1 ρ1 H1 _ ev R1 i1 p1 => ?_⟩
  exact p1.nx ⟨R1, E.mono ev.fr ev.pre⟩
def mRet (m : ME) : MS := fun env st => (m env st).thenS env fun u st => .rt u st
theorem ds_ret {e : Expr} {pos : Pos} {m : ME} (h : DE X W e m) : DS X W (.Return (some e) pos) (mRet m) := by
  refine PS.weak (ps_ret h) ?_
  rintro D σ H ⟨F, ρ, st, env, ⟨R, E⟩, p⟩
  refine ⟨F, ρ, st, env, ⟨R, E⟩, PostS.bind E p fun u st1 x F1 ρ1 H1 _ ev R1 i1 p1 => ?_⟩
  exact p1 x F1 ρ1 H1 Evo.refl R1 i1
theorem ds_ret0 {pos : Pos} : DS X W (.Return none pos) (fun _ st => .rt (.d .none) st) := by
  refine PS.weak ps_retN ?_
  rintro D σ H ⟨F, ρ, st, env, ⟨R, E⟩, p⟩
  exact p .non F ρ H Evo.refl R (.d .non)
def mIfS (t : MT) (a b : MS) : MS := fun env st => (t env st).thenS env fun c st => if c then a env st else b env st
theorem ds_if {c : Expr} {a b : List Stmt} {pos : Pos} {t : MT} {m n : MS} (hc : DT X W c t) (ha : DSs X W a m) (hb : DSs X W b n) : DS X W (.If c a b pos) (mIfS t m n) := by
  refine PS.weak (ps_if hc ha hb) ?_
  rintro D σ H ⟨F, ρ, st, env, ⟨R, E⟩, p⟩
  refine ⟨F, ρ, st, env, ⟨R, E⟩, PostS.bind E p fun u st1 x F1 ρ1 H1 _ ev R1 i1 p1 => ?_⟩
  obtain rfl : x = u := i1
  cases x with
  | true => rw [if_pos rfl] at p1 ⊢; exact ⟨F1, ρ1, st1, env, ⟨R1, E.mono ev.fr ev.pre⟩, p1⟩
  | false => rw [if_neg Bool.false_ne_true] at p1 ⊢; exact ⟨F1, ρ1, st1, env, ⟨R1, E.mono ev.fr ev.pre⟩, p1⟩
def mSet (i : Nat) (m : ME) : MS := fun env st => (m env st).thenS env fun u st => .nx (env.set i (some u)) st
theorem ds_set {x : Str} {e : Expr} {pos pos' : Pos} {m : ME} (i : Nat) (hN : X.N.Nodup) (he : DE X W e m) (hi : X.N[i]? = some x := by rfl) (hx : Loc X.env.scope x := by first | exact .inl rfl | exact .inr rfl) (hs : swapsWith e (some (.Name x pos')) pos.line X.env = pure false := by rfl)
    (hf : X.fn x = true ∨ X.env.scope.names.lookup x = some .local := by first | exact .inl rfl | exact .inr rfl | assumption) : DS X W (.Assign [.Name x pos'] e pos) (mSet i m) := by
  refine PS.weak (ps_set hN hi hx he hs hf) ?_
  rintro D σ H ⟨F, ρ, st, env, ⟨R, E⟩, p⟩
  refine ⟨F, ρ, st, env, ⟨R, E⟩, PostS.bind E p fun u st1 v F1 ρ1 H1 _ ev R1 i1 p1 => ?_⟩
  exact p1.nx ⟨R1, (E.mono ev.fr ev.pre).set i1⟩
/-- name op= e, ints -/
def mAug (i : Nat) (op : U → U → Sto → EO U) (m : ME) : MS := fun env st => match env[i]? with
  | some (some u) => ((m env st).bind fun w st => op u w st).thenS env fun z st => .nx (env.set i (some z)) st
  | _ => .bad
def DIp (K : PySem.W.Frag) (r : TIp) (op : U → U → Sto → EO U) : Prop := D2 K r op
theorem ds_aug {x : Str} {e : Expr} {o : Operator} {pos pos' : Pos} {m : ME} {ti : TIp} {op : U → U → Sto → EO U} (i : Nat) (hN : X.N.Nodup) (ho : PIp X o ti) (hr : D2 X.K ti op) (he : DE X W e m) (hi : X.N[i]? = some x := by rfl) (hx : Loc X.env.scope x := by first | exact .inl rfl | exact .inr rfl)
    (hf : X.fn x = true ∨ X.env.scope.names.lookup x = some .local := by first | exact .inl rfl | exact .inr rfl | assumption) : DS X W (.AugAssign (.Name x pos') o e pos) (mAug i op m) := by
  refine PS.weak (ps_aug hN hi hx he ho hf) ?_
  rintro D σ H ⟨F, ρ, st, env, ⟨R, E⟩, p⟩
  unfold mAug at p
  cases e : env[i]? with
  | none => rw [e] at p; exact p.elim
  | some o =>
    cases o with
    | none => rw [e] at p; exact p.elim
    | some u =>
      rw [e] at p
      obtain ⟨v, h1, h2⟩ := E.2 i u e
      refine ⟨v, h1, F, ρ, st, env, ⟨R, E⟩, ?_⟩
      dsimp only at p
      cases em : m env st with
      | ok w st1 =>
        rw [em] at p
        intro y F1 ρ1 H1 ev R1 i1
        have p1 : PostS X.K W F1 ρ1 H1 D ((op u w st1).thenS env fun z st => .nx (env.set i (some z)) st) := PostS.step ev p
        refine hr R1 (h2.mono ev.fr ev.pre) i1 (PostS.bind (E.mono ev.fr ev.pre) p1 fun z st2 zv F2 ρ2 H2 _ ev2 R2 i2 p2 => ?_)
        exact p2.nx ⟨R2, ((E.mono ev.fr ev.pre).mono ev2.fr ev2.pre).set i2⟩
      | ex x st1 =>
        rw [em] at p
        exact fun c d F' ρ' H' e' r' q' => p c d σ F' ρ' H' e' ⟨r', E.mono e'.fr e'.pre⟩ q'
      | bad => rw [em] at p; exact p
theorem d2_ipadd {K : PySem.W.Frag} : D2 K (ipI fun i j => i + j) (dInt (fun _ _ => true) (· + ·)) := by
  intro W F ρ st σ H Q x y u w R i1 i2 p
  unfold dInt at p
  split at p
  · rw [if_pos rfl] at p
    rw [i1.int_inv, i2.int_inv]
    exact ⟨_, _, rfl, rfl, p.ok R (.d (.int _))⟩
  · exact p.elim
theorem d2_ipsub {K : PySem.W.Frag} : D2 K (ipI fun i j => i - j) (dInt (fun _ _ => true) (· - ·)) := by
  intro W F ρ st σ H Q x y u w R i1 i2 p
  unfold dInt at p
  split at p
  · rw [if_pos rfl] at p
    rw [i1.int_inv, i2.int_inv]
    exact ⟨_, _, rfl, rfl, p.ok R (.d (.int _))⟩
  · exact p.elim

/-! ### targets -/
abbrev MG := U → En → Sto → Option En
def tG (K : PySem.W.Frag) (vs : List Nat) (g : MG) : TG := fun v σ H Q => ∃ F ρ st env u env', Go K F ρ st env σ H ∧ IR K F ρ v u ∧ g u env st = some env' ∧
  ∀ σ', EnR K F ρ σ' env' → wipe σ' vs = wipe σ vs → Q σ' H
abbrev DG (X : Cx) (vs : List Nat) (t : Expr) (g : MG) : Prop := PG X t (tG X.K vs g)
theorem PG.weak {X : Cx} {e : Expr} {t t' : TG} (h : PG X e t) (w : ∀ v σ H Q, t' v σ H Q → t v σ H Q) : PG X e t' := ⟨fun pins s σ H v u Q I r q => h.run pins s σ H v u Q I r (w _ _ _ _ q)⟩
theorem PGs.weak {X : Cx} {e : List Expr} {t t' : TGs} (h : PGs X e t) (w : ∀ v σ H Q, t' v σ H Q → t v σ H Q) : PGs X e t' := ⟨fun pins s σ H v u Q I r q => h.run pins s σ H v u Q I r (w _ _ _ _ q)⟩
def gN (i : Nat) : MG := fun u env _ => some (env.set i (some u))
theorem dg_name {x : Str} {pos : Pos} {vs : List Nat} (i : Nat) (hN : X.N.Nodup) (hv : i ∈ vs := by decide) (hi : X.N[i]? = some x := by rfl) (hx : Loc X.env.scope x := by first | exact .inl rfl | exact .inr rfl)
    (hf : X.fn x = true ∨ X.env.scope.names.lookup x = some .local := by first | exact .inl rfl | exact .inr rfl | assumption) : DG X vs (.Name x pos) (gN i) := by
  refine PG.weak (pg_name hN hi hx hf) ?_
  rintro v σ H Q ⟨F, ρ, st, env, u, env', ⟨R, E⟩, i1, e, k⟩
  cases e
  exact k _ (E.set i1) (wipe_set hv)
abbrev MGs := List U → En → Sto → Option En
def tGs (K : PySem.W.Frag) (vs : List Nat) (g : MGs) : TGs := fun ws σ H Q => ∃ F ρ st env us env', Go K F ρ st env σ H ∧ IRs K F ρ ws us ∧ g us env st = some env' ∧
  ∀ σ', EnR K F ρ σ' env' → wipe σ' vs = wipe σ vs → Q σ' H
abbrev DGs (X : Cx) (vs : List Nat) (t : List Expr) (g : MGs) : Prop := PGs X t (tGs X.K vs g)
def gNil' : MGs := fun us env _ => match us with
  | [] => some env
  | _ => none
def gCons' (g : MG) (r : MGs) : MGs := fun us env st => match us with
  | u :: us => (g u env st).bind fun env' => r us env' st
  | [] => none
theorem dgs_nil {vs : List Nat} : DGs X vs [] gNil' := by
  refine PGs.weak pgs_nil ?_
  rintro v σ H Q ⟨F, ρ, st, env, us, env', ⟨R, E⟩, i1, e, k⟩
  cases us with
  | nil => cases e; cases i1; exact ⟨rfl, k _ E rfl⟩
  | cons _ _ => cases e
theorem dgs_cons {e : Expr} {es : List Expr} {vs : List Nat} {g : MG} {r : MGs} (h1 : DG X vs e g) (h2 : DGs X vs es r)
    (hs : (assignEach (e :: es) X.env).map (·.2) = assign e X.env :: (assignEach es X.env).map (·.2) := by rfl) : DGs X vs (e :: es) (gCons' g r) := by
  refine PGs.weak (pgs_cons h1 h2 hs) ?_
  rintro v σ H Q ⟨F, ρ, st, env, us, env', ⟨R, E⟩, i1, e, k⟩
  cases us with
  | nil => cases e
  | cons u us =>
    obtain ⟨env1, e1, e2⟩ := Option.bind_eq_some_iff.mp e
    cases i1 with
    | cons a b =>
      refine ⟨_, _, rfl, F, ρ, st, env, u, env1, ⟨R, E⟩, a, e1, fun σ' E' w' => ?_⟩
      exact ⟨F, ρ, st, env1, us, env', ⟨R, E'⟩, b, e2, fun σ'' E'' w'' => k σ'' E'' (w''.trans w')⟩
/-- a tuple's target -/
def gT (n : Nat) (g : MGs) : MG := fun u env st => match u with
  | .d (.tuple xs) => if xs.length = n then g (xs.map .d) env st else none
  | _ => none
theorem dg_tup {es : List Expr} {k : Nat} {pos : Pos} {n : Nat} {vs : List Nat} {g : MGs} (hc : X.calm = true) (h : DGs X vs es g)
    (hn : (assignEach es X.env).length = n := by rfl) (hst : (assignEach es X.env).findIdx? (·.1) = none := by rfl) : DG X vs (.Tuple es k pos) (gT n g) := by
  refine PG.weak (pg_tup hc h hn hst) ?_
  rintro v σ H Q ⟨F, ρ, st, env, u, env', ⟨R, E⟩, i1, e, k⟩
  unfold gT at e
  split at e
  · split at e
    · rename_i xs hl
      obtain ⟨a, ws, rfl, h1, h2⟩ := i1.tup_inv
      exact ⟨a, ws, rfl, R.sub.sqT h1, by rw [h2.length]; exact hl, F, ρ, st, env, _, env', ⟨R, E⟩, h2.irs, e, k⟩
    · cases e
  · cases e
/-- target = e -/
def mAsg (g : MG) (m : ME) : MS := fun env st => (m env st).thenS env fun u st => match g u env st with
  | some env' => .nx env' st
  | none => .bad
theorem ds_asg {tg e : Expr} {pos : Pos} {m : ME} {g : MG} {vs : List Nat} (he : DE X W e m) (hg : DG X vs tg g) (hs : swapsWithSole [tg] e pos.line X.env = pure false := by rfl) (hw : swappedStores [tg] e X.env = pure none := by rfl)
    (h1 : (assignEach [tg] X.env).map (·.2) = [assign tg X.env] := by rfl) : DS X W (.Assign [tg] e pos) (mAsg g m) := by
  refine PS.weak (ps_asg he hg hs hw h1) ?_
  rintro D σ H ⟨F, ρ, st, env, ⟨R, E⟩, p⟩
  refine ⟨F, ρ, st, env, ⟨R, E⟩, PostS.bind E p fun u st1 v F1 ρ1 H1 _ ev R1 i1 p1 => ?_⟩
  cases e : g u env st1 with
  | none => rw [e] at p1; exact p1.elim
  | some env' =>
    rw [e] at p1
    exact ⟨F1, ρ1, st1, env, u, env', ⟨R1, E.mono ev.fr ev.pre⟩, i1, e, fun σ' E' _ => p1.nx ⟨R1, E'⟩⟩
/-- a, b = x, y -/
def mPar (i j : Nat) (a : MA) : MS := fun env st => (a env st).thenS env fun us st => match us with
  | [u, w] => .nx ((env.set i (some u)).set j (some w)) st
  | _ => .bad
theorem ds_par {x y : Str} {a b : Expr} {m : MA} {px py pt pos : Pos} {kt k2 pt2} (i j : Nat) (hc : X.calm = true) (hN : X.N.Nodup) (ha : DA X W [a, b] m) (hi : X.N[i]? = some x := by rfl) (hj : X.N[j]? = some y := by rfl) (hij : i ≠ j := by decide)
    (hx : X.env.scope.names.lookup x = some .local := by rfl) (hy : X.env.scope.names.lookup y = some .local := by rfl)
    (hw : swappedStores [.Tuple [.Name x px, .Name y py] kt pt] (.Tuple [a, b] k2 pt2) X.env = pure (some [x, y]) := by rfl)
    (hs : swapsWithSole [.Tuple [.Name x px, .Name y py] kt pt] (.Tuple [a, b] k2 pt2) pos.line X.env = pure false := by rfl) :
    DS X W (.Assign [.Tuple [.Name x px, .Name y py] kt pt] (.Tuple [a, b] k2 pt2) pos) (mPar i j m) := by
  refine PS.weak (ps_par hc hN hi hj hij hx hy ha hw hs) ?_
  rintro D σ H ⟨F, ρ, st, env, ⟨R, E⟩, p⟩
  refine ⟨F, ρ, st, env, ⟨R, E⟩, PostS.bind E p fun us st1 vs F1 ρ1 H1 _ ev R1 i1 p1 => ?_⟩
  split at p1
  · obtain ⟨v, v', rfl, r1, r2⟩ := i1.two_inv
    exact ⟨v, v', rfl, p1.nx ⟨R1, ((E.mono ev.fr ev.pre).set r1).set r2⟩⟩
  · exact p1.elim

/-! ### what is walked -/
/-- what must stand while it is walked -/
abbrev Dep := List (Nat × List U)
def depOk (d : Dep) (st : Sto) : Prop := ∀ q ∈ d, st[q.1]? = some (.lst q.2)
def WalkOk (K : PySem.W.Frag) (F : Hp) (ρ : List Addr) (J : L2.It) (z : List U × Dep) : Prop :=
  ∃ n G Y, Walk J n G Y ∧ z.1.length = n ∧ (∀ F' ρ' st' H', Sub F F' → (∃ l, ρ' = ρ ++ l) → Rel K F' ρ' st' H' → depOk z.2 st' → G H') ∧
    ∀ i v H F' ρ' st' H', Sub F F' → (∃ l, ρ' = ρ ++ l) → Rel K F' ρ' st' H → depOk z.2 st' → i < n → Y i H v H' → ∃ F'' u, Evo F' ρ' H F'' ρ' H' ∧ Rel K F'' ρ' st' H' ∧ z.1[i]? = some u ∧ IR K F'' ρ' v u
abbrev MI := En → Sto → EO (List U × Dep)
def tI (K : PySem.W.Frag) (W : WX) (m : MI) : TI := fun σ H R => ∃ F ρ st env, Go K F ρ st env σ H ∧ Post K W F ρ σ H (WalkOk K) R (m env st)
abbrev DI (X : Cx) (W : WX) (tg e : Expr) (m : MI) : Prop := PI X tg e (tI X.K W m)
theorem PI.weak {X : Cx} {tg e : Expr} {t t' : TI} (h : PI X tg e t) (w : ∀ σ H Q, t' σ H Q → t σ H Q) : PI X tg e t' := ⟨fun pins s σ H Q I q => h.run pins s σ H Q I (w _ _ _ q)⟩
theorem PI.or {X : Cx} {tg e : Expr} {t t' : TI} (h : PI X tg e t) (h' : PI X tg e t') : PI X tg e (fun σ H Q => t σ H Q ∨ t' σ H Q) := ⟨fun pins s σ H Q I q => q.elim (h.run pins s σ H Q I) (h'.run pins s σ H Q I)⟩
/-- the items of a value, and what must stand -/
def depOf (u : U) (us : List U) : Dep := match u with
  | .r n => [(n, us)]
  | _ => []
theorem seq_stays {K : PySem.W.Frag} {F : Hp} {ρ : List Addr} {v : V} {u : U} {us : List U} {st : Sto} {H : Hp} (R : Rel K F ρ st H) (i : IR K F ρ v u) (h : seqOf u st = some us) :
    ∃ a vs, v = .ref a ∧ IRs K F ρ vs us ∧ ((isL u = true ∧ ∀ F' ρ' st' H', Sub F F' → (∃ l, ρ' = ρ ++ l) → Rel K F' ρ' st' H' → depOk (depOf u us) st' → ∃ ws, SqL K H' a ws ∧ IRs K F' ρ' ws us) ∨
      (isL u = false ∧ ∀ F' ρ' st' H', Sub F F' → (∃ l, ρ' = ρ ++ l) → Rel K F' ρ' st' H' → SqT K H' a vs)) := by
  unfold seqOf at h
  split at h
  · cases h
    obtain ⟨a, vs, rfl, h1, h2⟩ := i.tup_inv
    exact ⟨a, vs, rfl, h2.irs, .inr ⟨rfl, fun F' ρ' st' H' s _ R' => (s.trans R'.sub).sqT h1⟩⟩
  · cases h
    obtain ⟨a, vs, rfl, h1, h2⟩ := i.lst_inv
    exact ⟨a, vs, rfl, h2.irs, .inl ⟨rfl, fun F' ρ' st' H' s pr R' _ => ⟨vs, .of (R'.sub _ _ (s _ _ h1)), (h2.mono s).irs⟩⟩⟩
  · rename_i st0 n
    obtain ⟨a, rfl, ha⟩ := i.r_inv
    split at h
    · rename_i us' hs
      cases h
      obtain ⟨vs, h1, h2⟩ := R.ob _ _ _ ha hs
      refine ⟨a, vs, rfl, h2, .inl ⟨rfl, fun F' ρ' st' H' s pr R' d => ?_⟩⟩
      have q := d (n, us) (by simp [depOf])
      have ha' : ρ'[n]? = some a := by
        obtain ⟨l, rfl⟩ := pr
        rw [List.getElem?_append_left (List.getElem?_eq_some_iff.mp ha).1]; exact ha
      obtain ⟨ws, h3, h4⟩ := R'.ob _ _ _ ha' q
      exact ⟨ws, .of h3, h4⟩
    · cases h
  · cases h
    rename_i ns
    cases i with
    | s i => exact ⟨_, _, rfl, irs_ints _, .inl ⟨rfl, fun F' ρ' st' H' s pr R' _ => ⟨_, (s.trans R'.sub).sqL i, irs_ints _⟩⟩⟩
  · cases h
    cases i with
    | k i j => exact ⟨_, _, rfl, j.irs, .inr ⟨rfl, fun F' ρ' st' H' s _ R' => (s.trans R'.sub).sqT i⟩⟩
  · cases h
/-- a list or tuple, whatever stands at it -/
theorem walk_listA {K : PySem.W.Frag} {a : Addr} {n : Nat} : Walk (Itl K a) n (fun H => ∃ xs, SqL K H a xs ∧ xs.length = n) (fun i H x H' => H' = H ∧ ∀ xs, SqL K H a xs → xs[i]? = some x) :=
  ⟨fun i _ hi ⟨xs, q, e⟩ => ⟨xs, xs[i]'(by omega), q, by simp⟩, fun _ ⟨xs, q, e⟩ => ⟨xs, q, Nat.le_of_eq e⟩, fun _ _ _ _ _ q y => y⟩
def mIt (m : ME) : MI := fun env st => (m env st).bind fun u st => match seqOf u st with
  | some us => .ok (us, depOf u us) st
  | none => .bad
theorem di_seq {tg e : Expr} {m : ME} (h : DE X W e m) : DI X W tg e (mIt m) := by
  refine PI.weak (PI.or (pi_list h) (pi_tup h)) ?_
  rintro σ H Q ⟨F, ρ, st, env, ⟨R, E⟩, p⟩
  -- one of the two, by what it evaluates to
  have key : (∀ u st1, m env st = .ok u st1 → isL u = true) ∨ (∀ u st1, m env st = .ok u st1 → isL u = false) := by
    cases em : m env st with
    | ok u st1 =>
      cases hl : isL u with
      | true => exact .inl fun u' s' q => by cases q; exact hl
      | false => exact .inr fun u' s' q => by cases q; exact hl
    | _ => exact .inl fun u' s' q => by cases q
  rcases key with key | key
  · refine .inl ⟨F, ρ, st, env, ⟨R, E⟩, Post.bind p fun u st1 x F1 ρ1 H1 em ev R1 i1 p1 => ?_⟩
    split at p1
    · rename_i us hu
      obtain ⟨a, vs, rfl, r, q | q⟩ := seq_stays R1 i1 hu
      · obtain ⟨_, q⟩ := q
        obtain ⟨a', vs', e', hs', r'⟩ := seqOf_L R1 i1 hu (isL_nt (key u st1 em))
        cases e'
        refine ⟨a, rfl, ⟨_, hs'⟩, p1.ok R1 ?_⟩
        refine ⟨us.length, _, _, walk_listA (K := X.K) (a := a), rfl, fun F' ρ' st' H' s pr R' d => ?_, fun i v H2 F' ρ' st' H2' s pr R' d hi y => ?_⟩
        · obtain ⟨ws, w1, w2⟩ := q F' ρ' st' H' s pr R' d
          exact ⟨ws, w1, IRs.length w2⟩
        · obtain ⟨ws, w1, w2⟩ := q F' ρ' st' H2 s pr R' d
          obtain ⟨rfl, y⟩ := y
          have e1 := y ws w1
          obtain ⟨v', e2, i2⟩ := IRs.get w2 (List.getElem?_eq_getElem hi)
          rw [e1] at e2; cases e2
          exact ⟨F', us[i], Evo.refl, R', List.getElem?_eq_getElem hi, i2⟩
      · rw [key u st1 em] at q; cases q.1
    · exact p1.elim
  · refine .inr ⟨F, ρ, st, env, ⟨R, E⟩, Post.bind p fun u st1 x F1 ρ1 H1 em ev R1 i1 p1 => ?_⟩
    split at p1
    · rename_i us hu
      obtain ⟨a, vs, rfl, r, q | q⟩ := seq_stays R1 i1 hu
      · rw [key u st1 em] at q; cases q.1
      · obtain ⟨_, q⟩ := q
        refine ⟨a, rfl, ⟨vs, q F1 ρ1 st1 H1 (Sub.refl _) ⟨[], by simp⟩ R1⟩, p1.ok R1 ?_⟩
        refine ⟨vs.length, _, _, walk_tup (K := X.K) (a := a) (xs := vs), (IRs.length r).symm, fun F' ρ' st' H' s pr R' d => q F' ρ' st' H' s pr R', fun i v H2 F' ρ' st' H2' s pr R' d hi y => ?_⟩
        obtain ⟨rfl, y⟩ := y
        have hi' : i < us.length := by rw [← IRs.length r]; exact hi
        obtain ⟨v', e2, i2⟩ := IRs.get r (List.getElem?_eq_getElem hi')
        rw [y] at e2; cases e2
        exact ⟨F', us[i], Evo.refl, R', List.getElem?_eq_getElem hi', i2.mono s pr⟩
    · exact p1.elim
/-- range -/
def rangeU (lo : Int) (n : Nat) : List U := (List.range n).map fun i => .d (.int (lo + (i : Nat)))
def mRg1 (m : MA) : MI := fun env st => (m env st).bind fun us st => match us with
  | [.d (.int j)] => if -(2 ^ 62) ≤ j ∧ j < 2 ^ 62 then .ok (rangeU 0 j.toNat, []) st else .bad
  | _ => .bad
def mRg2 (m : MA) : MI := fun env st => (m env st).bind fun us st => match us with
  | [.d (.int i), .d (.int j)] => if -(2 ^ 62) ≤ i ∧ i < 2 ^ 62 ∧ -(2 ^ 62) ≤ j ∧ j < 2 ^ 62 then .ok (rangeU i (j - i).toNat, []) st else .bad
  | _ => .bad
theorem range_walks {K : PySem.W.Frag} {F : Hp} {ρ : List Addr} {lo : Int} {n : Nat} : WalkOk K F ρ (Itr lo n) (rangeU lo n, []) := by
  refine ⟨n, _, _, walk_range, by simp [rangeU], fun _ _ _ _ _ _ _ _ => trivial, fun i v H2 F' ρ' st' H2' s pr R' d hi y => ?_⟩
  obtain ⟨rfl, rfl⟩ := y
  exact ⟨F', .d (.int (lo + (i : Nat))), Evo.refl, R', by simp [rangeU, hi], .d (.int _)⟩
theorem di_range1 {tg a : Expr} {p pos : Pos} {m : MA} (hg : Gl X "range") (hm : X.mg "range" = none) (ha : DA X W [a] m) (hs : starEach [a] X.env = [(false, eval a X.env)] := by rfl) : DI X W tg (.Call (.Name "range" p) [a] [] pos) (mRg1 m) := by
  refine PI.weak (pi_range1 hg hm ha hs) ?_
  rintro σ H Q ⟨F, ρ, st, env, ⟨R, E⟩, p⟩
  refine ⟨F, ρ, st, env, ⟨R, E⟩, Post.bind p fun us st1 vs F1 ρ1 H1 _ ev R1 i1 p1 => ?_⟩
  split at p1
  · split at p1
    · rename_i c
      obtain ⟨v, rfl, r1⟩ := i1.one_inv
      exact ⟨_, by rw [r1.int_inv], c.1, c.2, p1.ok R1 range_walks⟩
    · exact p1.elim
  · exact p1.elim
theorem di_range2 {tg a b : Expr} {p pos : Pos} {m : MA} (hg : Gl X "range") (hm : X.mg "range" = none) (ha : DA X W [a, b] m) (hs : starEach [a, b] X.env = [(false, eval a X.env), (false, eval b X.env)] := by rfl) (hs2 : starEach [b] X.env = [(false, eval b X.env)] := by rfl) :
    DI X W tg (.Call (.Name "range" p) [a, b] [] pos) (mRg2 m) := by
  refine PI.weak (pi_range2 hg hm ha hs hs2) ?_
  rintro σ H Q ⟨F, ρ, st, env, ⟨R, E⟩, p⟩
  refine ⟨F, ρ, st, env, ⟨R, E⟩, Post.bind p fun us st1 vs F1 ρ1 H1 _ ev R1 i1 p1 => ?_⟩
  split at p1
  · split at p1
    · rename_i c
      obtain ⟨v, v', rfl, r1, r2⟩ := i1.two_inv
      exact ⟨_, _, by rw [r1.int_inv, r2.int_inv], c, p1.ok R1 range_walks⟩
    · exact p1.elim
  · exact p1.elim
end

/-! ### for -/
section
open Classical
noncomputable def forL (dep : Dep) (g : MG) (body : MS) : List U → En → Sto → SO
  | [], env, st => if depOk dep st then .nx env st else .bad
  | u :: r, env, st => if depOk dep st then match g u env st with
    | none => .bad
    | some env1 => match body env1 st with
      | .nx e s => forL dep g body r e s
      | .ct e s => forL dep g body r e s
      | .bk e s => .nx e s
      | o => o
    else .bad
noncomputable def mFor (it : MI) (g : MG) (body : MS) : MS := fun env st => (it env st).thenS env fun z st => forL z.2 g body z.1 env st
/-- nothing may be raised -/
def EO.bindN {α β : Type} : EO α → (α → Sto → EO β) → EO β
  | .ok a st, f => f a st
  | _, _ => .bad
/-- a comprehension's items -/
noncomputable def compL (dep : Dep) (g : MG) (tt : MT) (te : ME) (env : En) : List U → List U → Sto → EO (List U)
  | [], acc, st => if depOk dep st then .ok acc st else .bad
  | u :: r, acc, st => if depOk dep st then match g u env st with
    | none => .bad
    | some env1 => (tt env1 st).bindN fun b st => if b then (te env1 st).bindN fun y st => if acc.length < 10000000 then compL dep g tt te env r (acc ++ [y]) st else .bad
      else compL dep g tt te env r acc st
    else .bad
noncomputable def mLc (s : Bool) (vs : List Nat) (it : MI) (g : MG) (tt : MT) (te : ME) : ME := fun env st => (it env st).bind fun z st =>
  (compL z.2 g tt te (wipeE env vs) z.1 [] st).bindN fun us st => mkL s us st
end
theorem drop_of {α : Type} {us : List α} {i : Nat} {u : α} (h : us[i]? = some u) : us.drop i = u :: us.drop (i + 1) := by
  have hlt : i < us.length := (List.getElem?_eq_some_iff.mp h).1
  rw [List.drop_eq_getElem_cons hlt]
  rw [List.getElem?_eq_getElem hlt] at h
  cases h; rfl
section
variable {X : Cx} {W : WX}
theorem ds_for {iter tg : Expr} {body : List Stmt} {pos : Pos} {it : MI} {g : MG} {b : MS} {vs : List Nat} (hp : PassesOwn (model X.prog X.w) X.A X.env X.xe) (hc : X.calm = true) (hi : DI X W tg iter it) (hg : DG X vs tg g) (hb : DSs X W body b)
    (hs : ∀ x, foldedSetIterable iter X.env x = pure x := by intro _; rfl) : DS X W (.For tg iter body [] pos) (mFor it g b) := by
  refine PS.weak (ps_for hp hc hi hg hb hs) ?_
  rintro D σ H ⟨F, ρ, st, env, ⟨R, E⟩, p⟩
  refine ⟨F, ρ, st, env, ⟨R, E⟩, PostS.bind E p fun z st1 J F1 ρ1 H1 _ ev R1 i1 p1 => ?_⟩
  obtain ⟨us, dep⟩ := z
  obtain ⟨n, G, Y, wk, hl, hG, hY⟩ := i1
  dsimp only at hl hG hY p1
  have dk : ∀ {us : List U} {env : En} {st : Sto} {F ρ H}, PostS X.K W F ρ H D (forL dep g b us env st) → depOk dep st := fun {us env st F ρ H} h => by
    cases us with
    | nil =>
      unfold forL at h
      by_cases c : depOk dep st
      · exact c
      · rw [if_neg c] at h; exact h.elim
    | cons u r =>
      unfold forL at h
      by_cases c : depOk dep st
      · exact c
      · rw [if_neg c] at h; exact h.elim
  refine for_it wk (fun i σ' H' => ∃ F' ρ' st' env', Evo F1 ρ1 H1 F' ρ' H' ∧ Go X.K F' ρ' st' env' σ' H' ∧ PostS X.K W F' ρ' H' D (forL dep g b (us.drop i) env' st')) ⟨F1, ρ1, st1, env, Evo.refl, ⟨R1, E.mono ev.fr ev.pre⟩, p1⟩ ?_ ?_ ?_
  · rintro i σ' H' hi' ⟨F', ρ', st', env', e', g', p'⟩
    exact hG F' ρ' st' H' e'.fr e'.pre g'.1 (dk p')
  · rintro i x σ' H' H'' hi' ⟨F', ρ', st', env', e', g', p'⟩ y
    have d := dk p'
    obtain ⟨F'', u, ev2, R2, hu, iu⟩ := hY i x H' F' ρ' st' H'' e'.fr e'.pre g'.1 d hi' y
    rw [drop_of hu] at p'
    unfold forL at p'
    rw [if_pos d] at p'
    cases eg : g u env' st' with
    | none => rw [eg] at p'; exact p'.elim
    | some env1 =>
      rw [eg] at p'
      refine ⟨F'', ρ', st', env', u, env1, ⟨R2, g'.2.mono ev2.fr ev2.pre⟩, iu, eg, fun σ2 E2 _ => ?_⟩
      refine ⟨F'', ρ', st', env1, ⟨R2, E2⟩, ?_⟩
      have p2 := PostS.step ev2 p'
      dsimp only at p2
      cases eb : b env1 st' with
      | nx e s =>
        rw [eb] at p2
        exact fun σ3 F3 ρ3 H3 ev3 g3 => ⟨F3, ρ3, s, e, (e'.trans ev2).trans ev3, g3, PostS.step ev3 p2⟩
      | ct e s =>
        rw [eb] at p2
        exact fun σ3 F3 ρ3 H3 ev3 g3 => ⟨F3, ρ3, s, e, (e'.trans ev2).trans ev3, g3, PostS.step ev3 p2⟩
      | bk e s => rw [eb] at p2; exact p2
      | rt u s => rw [eb] at p2; exact p2
      | ex x e s => rw [eb] at p2; exact p2
      | bad => rw [eb] at p2; exact p2
  · rintro σ' H' ⟨F', ρ', st', env', e', g', p'⟩
    have d := dk p'
    rw [← hl, List.drop_length] at p'
    unfold forL at p'
    rw [if_pos d] at p'
    exact p'.nx g'
/-! ### while -/
def whileN (t : MT) (b : MS) : Nat → En → Sto → Option SO
  | 0, _, _ => none
  | n + 1, env, st => match t env st with
    | .ok false st' => some (.nx env st')
    | .ok true st' => match b env st' with
      | .nx e s => whileN t b n e s
      | .ct e s => whileN t b n e s
      | .bk e s => some (.nx e s)
      | o => some o
    | .ex x st' => some (.ex x env st')
    | .bad => some .bad
def FUEL : Nat := 1000000000
def mWhile (t : MT) (b : MS) : MS := fun env st => (whileN t b FUEL env st).getD .bad
theorem whileN_mono {t : MT} {b : MS} : ∀ {n m : Nat} {env : En} {st : Sto} {o : SO}, whileN t b n env st = some o → n ≤ m → whileN t b m env st = some o
  | 0, _, _, _, _, h, _ => by cases h
  | n + 1, 0, _, _, _, _, h => absurd h (by omega)
  | n + 1, m + 1, env, st, o, h, hm => by
    unfold whileN at h ⊢
    cases e : t env st with
    | ok c st' =>
      rw [e] at h
      cases c with
      | false => exact h
      | true =>
        dsimp only at h ⊢
        cases eb : b env st' with
        | nx e s => rw [eb] at h; exact whileN_mono h (by omega)
        | ct e s => rw [eb] at h; exact whileN_mono h (by omega)
        | bk e s => rw [eb] at h; exact h
        | rt u s => rw [eb] at h; exact h
        | ex x e s => rw [eb] at h; exact h
        | bad => rw [eb] at h; exact h
    | ex x st' => rw [e] at h; exact h
    | bad => rw [e] at h; exact h
theorem mWhile_of {t : MT} {b : MS} {n : Nat} {env : En} {st : Sto} {o : SO} (h : whileN t b n env st = some o) (hn : n ≤ FUEL) : mWhile t b env st = o := by
  unfold mWhile
  rw [whileN_mono h hn]; rfl
theorem ds_while {c : Expr} {body : List Stmt} {pos : Pos} {t : MT} {b : MS} (hp : PassesOwn (model X.prog X.w) X.A X.env X.xe) (hc : DT X W c t) (hb : DSs X W body b) : DS X W (.While c body [] pos) (mWhile t b) := by
  refine PS.weak (ps_while hp hc hb) ?_
  rintro D σ H ⟨F, ρ, st, env, g, p⟩
  unfold mWhile at p
  cases ew : whileN t b FUEL env st with
  | none => rw [ew] at p; exact p.elim
  | some o =>
    rw [ew] at p
    refine ⟨fun m σ' H' => ∃ F' ρ' st' env', Go X.K F' ρ' st' env' σ' H' ∧ ∃ o', whileN t b m env' st' = some o' ∧ PostS X.K W F' ρ' H' D o', ⟨FUEL, F, ρ, st, env, g, o, ew, p⟩, ?_⟩
    rintro m σ' H' ⟨F', ρ', st', env', ⟨R', E'⟩, o', hw, p'⟩
    cases m with
    | zero => cases hw
    | succ m =>
      unfold whileN at hw
      refine ⟨F', ρ', st', env', ⟨R', E'⟩, ?_⟩
      cases e : t env' st' with
      | ok cc st1 =>
        rw [e] at hw
        intro b' F1 ρ1 H1 ev R1 eb
        obtain rfl : b' = cc := eb
        cases b' with
        | false =>
          cases hw
          rw [if_neg Bool.false_ne_true]
          exact p' σ' F1 ρ1 H1 ev ⟨R1, E'.mono ev.fr ev.pre⟩
        | true =>
          rw [if_pos rfl]
          dsimp only at hw
          refine ⟨fun σ2 H2 => ∃ F2 ρ2 st2 env2, Go X.K F2 ρ2 st2 env2 σ2 H2 ∧ ∃ o2, whileN t b m env2 st2 = some o2 ∧ PostS X.K W F2 ρ2 H2 D o2, fun σ2 H2 q => ⟨m, Nat.lt_succ_self m, q⟩, F1, ρ1, st1, env', ⟨R1, E'.mono ev.fr ev.pre⟩, ?_⟩
          have p1 := PostS.step ev p'
          cases eb : b env' st1 with
          | nx e s => rw [eb] at hw; exact fun σ3 F3 ρ3 H3 ev3 g3 => ⟨F3, ρ3, s, e, g3, o', hw, PostS.step ev3 p1⟩
          | ct e s => rw [eb] at hw; exact fun σ3 F3 ρ3 H3 ev3 g3 => ⟨F3, ρ3, s, e, g3, o', hw, PostS.step ev3 p1⟩
          | bk e s => rw [eb] at hw; cases hw; exact p1
          | rt u s => rw [eb] at hw; cases hw; exact p1
          | ex x e s => rw [eb] at hw; cases hw; exact p1
          | bad => rw [eb] at hw; cases hw; exact p1
      | ex x st1 =>
        rw [e] at hw; cases hw
        exact fun c d F1 ρ1 H1 ev R1 xr => p' c d σ' F1 ρ1 H1 ev ⟨R1, E'.mono ev.fr ev.pre⟩ xr
      | bad => rw [e] at hw; cases hw; exact p'.elim
/-! ### comprehensions -/
abbrev WN : WX := fun _ _ _ _ => False
abbrev DTs (X : Cx) (W : WX) (ifs : List Expr) (m : MT) : Prop := PTs X ifs (tT X.K W m)
theorem dts_nil : DTs X W [] (fun _ st => .ok true st) := by
  refine ⟨fun pins s σ H Q I h => pts_nil.run pins s σ H Q I ?_⟩
  obtain ⟨F, ρ, st, env, ⟨R, E⟩, p⟩ := h
  exact p.ok R rfl
theorem dts_one {c : Expr} {m : MT} (h : DT X W c m) : DTs X W [c] m := pts_one h
/-- the list at D within a comprehension -/
def CI (K : PySem.W.Frag) (F : Hp) (ρ : List Addr) (H : Hp) (D : Addr) (F' : Hp) (ρ' : List Addr) (st' : Sto) (H' : Hp) (acc : List U) : Prop :=
  ∃ vs, H' D = some (.lst vs) ∧ IRs K F' ρ' vs acc ∧ Rel K F' ρ' st' H' ∧ D ∉ ρ' ∧ F' D = none ∧ Evo F ρ H F' ρ' H'
section
variable {K : PySem.W.Frag} {F F' F2 : Hp} {ρ ρ' ρ2 : List Addr} {H H' H2 : Hp} {D : Addr} {st st' st2 : Sto} {acc : List U}
theorem CI.step (c : CI K F ρ H D F' ρ' st' H' acc) (ev : Evo F' ρ' H' F2 ρ2 H2) (R : Rel K F2 ρ2 st2 H2) : CI K F ρ H D F2 ρ2 st2 H2 acc := by
  obtain ⟨vs, h1, h2, h3, h4, h5, h6⟩ := c
  have n2 : D ∉ ρ2 := fun z => by
    rcases ev.fresh D z with q | q
    · exact h4 q
    · rw [h1] at q; cases q
  refine ⟨vs, ev.keep D _ h1 h4, IRs.mono ev.fr ev.pre h2, R, n2, ?_, h6.trans ev⟩
  cases e : F2 D with
  | none => rfl
  | some o =>
    rcases ev.fro D o e with q | q | q
    · rw [h5] at q; cases q
    · rw [h1] at q; cases q
    · exact absurd q h4
theorem Rel.other {o : HO} (R : Rel K F ρ st H) (hF : F D = none) (hD : D ∉ ρ) : Rel K F ρ st (upd H D o) := by
  refine ⟨fun a q h => ?_, R.len, R.nd, fun i a ob h1 h2 => ?_, R.fr⟩
  · rw [upd_ne (ne_of_none h hF)]; exact R.sub a q h
  · have : a ≠ D := fun e => by subst e; exact hD (List.mem_of_getElem? h1)
    exact (R.ob i a ob h1 h2).mono (Sub.refl F) ⟨[], by simp⟩ fun q z => by rw [upd_ne this]; exact z
theorem CI.app (c : CI K F ρ H D F' ρ' st' H' acc) (hD : H D = none) {y : V} {u : U} (i : IR K F' ρ' y u) (hz : acc.length < 10000000) :
    ∃ vs, H' D = some (.lst vs) ∧ vs.length < sizeLine ∧ CI K F ρ H D F' ρ' st' (upd H' D (.lst (vs ++ [y]))) (acc ++ [u]) := by
  obtain ⟨vs, h1, h2, h3, h4, h5, h6⟩ := c
  refine ⟨vs, h1, line10' (by rw [IRs.length h2]; exact hz), vs ++ [y], upd_same, IRs.append h2 (.cons i .nil), h3.other h5 h4, h4, h5, h6.fr, h6.pre, fun a o h hn => ?_, h6.fro, h6.fresh⟩
  rw [upd_ne (ne_of_none h hD)]
  exact h6.keep a o h hn
theorem Rel.adopt {p : Addr} {ob : Ob} (R : Rel K F ρ st H) (hF : F p = none) (np : p ∉ ρ) (ho : OR K F (ρ ++ [p]) H p ob) : Rel K F (ρ ++ [p]) (st ++ [ob]) H := by
  refine ⟨R.sub, by simp [R.len], ?_, fun i a o' h1 h2 => ?_, fun i a o' h1 h2 h3 => ?_⟩
  · rw [List.nodup_append]
    exact ⟨R.nd, by simp, fun a h b hb e => by rw [List.mem_singleton.mp hb] at e; rw [e] at h; exact np h⟩
  · by_cases hi : i < ρ.length
    · rw [List.getElem?_append_left hi] at h1
      rw [List.getElem?_append_left (by rw [← R.len]; exact hi)] at h2
      exact (R.ob i a o' h1 h2).mono (Sub.refl F) ⟨[p], rfl⟩ fun q z => z
    · have e : i = ρ.length := by
        have := (List.getElem?_eq_some_iff.mp h1).1
        simp at this; omega
      subst e
      rw [List.getElem?_append_right (Nat.le_refl _)] at h1
      rw [List.getElem?_append_right (by rw [R.len]; exact Nat.le_refl _)] at h2
      simp at h1
      simp [R.len] at h2
      subst h1 h2
      exact ho
  · by_cases hi : i < ρ.length
    · rw [List.getElem?_append_left hi] at h1
      rw [List.getElem?_append_left (by rw [← R.len]; exact hi)] at h2
      exact R.fr i a o' h1 h2 h3
    · rw [List.getElem?_append_right (by omega)] at h1
      have e := List.mem_singleton.mp (List.mem_of_getElem? h1)
      rw [e]; exact hF
theorem Rel.froz {p : Addr} {o : HO} (R : Rel K F ρ st H) (hF : F p = none) (np : p ∉ ρ) (hH : H p = some o) : Rel K (upd F p o) ρ st H := by
  have sb : Sub F (upd F p o) := fun b q h => by rw [upd_ne (ne_of_none h hF)]; exact h
  refine ⟨fun b q h => ?_, R.len, R.nd, fun i b o' h1 h2 => (R.ob i b o' h1 h2).mono sb ⟨[], by simp⟩ fun q z => z, fun i b o' h1 h2 h3 => ?_⟩
  · by_cases e : b = p
    · subst e; rw [upd_same] at h; cases h; exact hH
    · rw [upd_ne e] at h; exact R.sub b q h
  · have : b ≠ p := fun e => by subst e; exact np (List.mem_of_getElem? h1)
    rw [upd_ne this]
    exact R.fr i b o' h1 h2 h3
theorem CI.fin {W : WX} {σ : L2.St} {Q : VK} {s : Bool} (c : CI K F ρ H D F' ρ' st' H' acc) (hD : H D = none) (p : Post K W F ρ σ H (IR K) Q (mkL s acc st')) : Q (.ref D) H' := by
  obtain ⟨vs, h1, h2, h3, h4, h5, h6⟩ := c
  unfold mkL at p
  cases s with
  | true =>
    rw [if_pos rfl] at p
    refine p _ F' (ρ' ++ [D]) H' ⟨h6.fr, ?_, h6.keep, h6.fro, fun a h => ?_⟩ (h3.adopt h5 h4 ⟨vs, h1, IRs.mono (Sub.refl F') ⟨[D], rfl⟩ h2⟩) (.r ?_)
    · obtain ⟨l, e⟩ := h6.pre
      exact ⟨l ++ [D], by rw [e, List.append_assoc]⟩
    · rcases List.mem_append.mp h with h | h
      · exact h6.fresh a h
      · rw [List.mem_singleton.mp h]; exact .inr hD
    · rw [← h3.len, List.getElem?_append_right (Nat.le_refl _)]
      simp
  | false =>
    rw [if_neg Bool.false_ne_true] at p
    cases e : datas acc with
    | none => rw [e] at p; exact p.elim
    | some xs =>
      rw [e] at p
      rw [datas_eq e] at h2
      have sb : Sub F' (upd F' D (.lst vs)) := fun b q h => by rw [upd_ne (ne_of_none h h5)]; exact h
      refine p _ (upd F' D (.lst vs)) ρ' H' ⟨h6.fr.trans sb, h6.pre, h6.keep, fun a o h => ?_, h6.fresh⟩ (h3.froz h5 h4 h1) (.d (.lst upd_same ((IRs.datas h2).mono sb)))
      by_cases ea : a = D
      · subst ea; exact .inr (.inl hD)
      · rw [upd_ne ea] at h; exact h6.fro a o h
theorem CI.start (R : Rel K F ρ st H) (hD : H D = none) : CI K F ρ H D F ρ st (upd H D (.lst [])) [] := by
  have hF : F D = none := by
    cases e : F D with
    | none => rfl
    | some q => rw [R.sub D q e] at hD; cases hD
  have np : D ∉ ρ := fun h => by
    obtain ⟨q, z⟩ := R.there h
    rw [hD] at z; cases z
  refine ⟨[], upd_same, .nil, R.other hF np, np, hF, Sub.refl F, ⟨[], by simp⟩, fun a o h _ => ?_, fun _ _ h => .inl h, fun _ h => .inl h⟩
  rw [upd_ne (ne_of_none h hD)]; exact h
end
theorem dep_of {dep : Dep} {g : MG} {tt : MT} {te : ME} {env : En} {us acc : List U} {st : Sto} (h : compL dep g tt te env us acc st ≠ .bad) : depOk dep st := by
  cases us with
  | nil =>
    unfold compL at h
    by_cases c : depOk dep st
    · exact c
    · rw [if_neg c] at h; exact absurd rfl h
  | cons u r =>
    unfold compL at h
    by_cases c : depOk dep st
    · exact c
    · rw [if_neg c] at h; exact absurd rfl h
theorem bindN_ok {α β : Type} {m : EO α} {f : α → Sto → EO β} (h : m.bindN f ≠ .bad) : ∃ a st, m = .ok a st ∧ m.bindN f = f a st := by
  cases m with
  | ok a st => exact ⟨a, st, rfl, rfl⟩
  | ex x st => exact absurd rfl h
  | bad => exact absurd rfl h
theorem Post.nb {K : PySem.W.Frag} {W : WX} {F : Hp} {ρ : List Addr} {σ : L2.St} {H : Hp} {α β : Type} {R : Hp → List Addr → β → α → Prop} {Q : β → Hp → Prop} {m : EO α} (h : Post K W F ρ σ H R Q m) : m ≠ .bad := fun e => by rw [e] at h; exact h
/-- one turn of a comprehension -/
theorem comp_turn {K : PySem.W.Frag} {W : WX} {F F' : Hp} {ρ ρ' : List Addr} {st' : Sto} {σ σ0 : L2.St} {H H' : Hp} {dep : Dep} {vs vs' : List Nat} {g : MG} {tt : MT} {te : ME} {env : En} {D : Addr} {u : U} {x : V} {r acc : List U} {Nx : Hp → Prop}
    (hvs : ∀ i ∈ vs', i ∈ vs) (hD : H D = none) (c : CI K F ρ H D F' ρ' st' H' acc) (E : EnR K F' ρ' σ env) (iu : IR K F' ρ' x u) (dk : depOk dep st') (nb : compL dep g tt te env (u :: r) acc st' ≠ .bad) (hw : wipe σ vs = wipe σ0 vs)
    (k : ∀ F2 ρ2 st2 H2 acc2, CI K F ρ H D F2 ρ2 st2 H2 acc2 → compL dep g tt te env (u :: r) acc st' = compL dep g tt te env r acc2 st2 → Sub F' F2 → (∃ l, ρ2 = ρ' ++ l) → Nx H2) :
    tG K vs' g x σ H' fun σ2 H2 => wipe σ2 vs = wipe σ0 vs ∧ tT K WN tt σ2 H2 fun b H3 =>
      if b = true then tE K WN te σ2 H3 fun y H4 => ∃ acc, H4 D = some (.lst acc) ∧ acc.length < sizeLine ∧ Nx (upd H4 D (.lst (acc ++ [y]))) else Nx H3 := by
  have e0 : compL dep g tt te env (u :: r) acc st' = match g u env st' with
    | none => .bad
    | some env1 => (tt env1 st').bindN fun b st => if b then (te env1 st).bindN fun y st => if acc.length < 10000000 then compL dep g tt te env r (acc ++ [y]) st else .bad else compL dep g tt te env r acc st := by
    conv => lhs; unfold compL
    rw [if_pos dk]
  cases eg : g u env st' with
  | none => rw [e0, eg] at nb; exact absurd rfl nb
  | some env1 =>
    rw [eg] at e0
    dsimp only at e0
    obtain ⟨vsA, h1, h2, h3, h4, h5, h6⟩ := id c
    refine ⟨F', ρ', st', env, u, env1, ⟨h3, E⟩, iu, eg, fun σ2 E2 w2 => ⟨?_, ?_⟩⟩
    · rw [← hw]; exact wipe_mono w2 hvs
    rw [e0] at nb
    obtain ⟨b, st1, et, eb⟩ := bindN_ok nb
    rw [eb] at e0 nb
    refine ⟨F', ρ', st', env1, ⟨h3, E2⟩, ?_⟩
    rw [et]
    intro b' F1 ρ1 H1 ev R1 rb
    obtain rfl : b' = b := rb
    have c1 := c.step ev R1
    cases b' with
    | false =>
      rw [if_neg Bool.false_ne_true] at e0 nb ⊢
      exact k F1 ρ1 st1 H1 acc c1 e0 ev.fr ev.pre
    | true =>
      rw [if_pos rfl] at e0 nb ⊢
      obtain ⟨y, st2, ey, ez⟩ := bindN_ok nb
      rw [ez] at e0 nb
      refine ⟨F1, ρ1, st1, env1, ⟨R1, E2.mono ev.fr ev.pre⟩, ?_⟩
      rw [ey]
      intro yv F2 ρ2 H2 ev2 R2 iy
      have c2 := c1.step ev2 R2
      by_cases hz : acc.length < 10000000
      · rw [if_pos hz] at e0
        obtain ⟨ws, w1, w2, w3⟩ := c2.app hD iy hz
        refine ⟨ws, w1, w2, k _ _ _ _ _ w3 e0 (ev.fr.trans ev2.fr) ?_⟩
        exact (ev.trans ev2).pre
      · rw [if_neg hz] at nb
        exact absurd rfl nb
/-- a whole walk of a comprehension -/
theorem comp_walk {K : PySem.W.Frag} {W : WX} {F F1 : Hp} {ρ ρ1 : List Addr} {st1 : Sto} {σ : L2.St} {H H1 : Hp} {J : L2.It} {us : List U} {dep : Dep} {vs vs' : List Nat} {g : MG} {tt : MT} {te : ME} {env : En} {D : Addr} {acc : List U} {Qd : Hp → Prop}
    (hvs : ∀ i ∈ vs', i ∈ vs) (hD : H D = none) (c : CI K F ρ H D F1 ρ1 st1 H1 acc) (E : EnR K F1 ρ1 (wipe σ vs) env) (i1 : WalkOk K F1 ρ1 J (us, dep)) (nb : compL dep g tt te env us acc st1 ≠ .bad)
    (k : ∀ F2 ρ2 st2 H2 acc2, CI K F ρ H D F2 ρ2 st2 H2 acc2 → compL dep g tt te env us acc st1 = .ok acc2 st2 → Sub F1 F2 → (∃ l, ρ2 = ρ1 ++ l) → Qd H2) :
    ∃ Wv : Nat → Nat → Hp → Prop, (∃ m, Wv 0 m H1) ∧ ∀ i m H, Wv i m H →
      (J.stop i H ∧ Qd H) ∨ (J.go i H ∧ ∃ Nx : Hp → Prop, (∀ H', Nx H' → ∃ m', m' < m ∧ Wv (i + 1) m' H') ∧ ∀ x H', J.yld i H x H' → tG K vs' g x (wipe σ vs) H' fun σ2 H2 => wipe σ2 vs = wipe σ vs ∧ tT K WN tt σ2 H2 fun b H3 =>
        if b = true then tE K WN te σ2 H3 fun y H4 => ∃ acc, H4 D = some (.lst acc) ∧ acc.length < sizeLine ∧ Nx (upd H4 D (.lst (acc ++ [y]))) else Nx H3) := by
  obtain ⟨n, G, Y, wk, hl, hG, hY⟩ := i1
  dsimp only at hl hG hY
  let Pv : Nat → Hp → Prop := fun i H' => ∃ F' ρ' st' acc', Sub F1 F' ∧ (∃ l, ρ' = ρ1 ++ l) ∧ CI K F ρ H D F' ρ' st' H' acc' ∧ compL dep g tt te env us acc st1 = compL dep g tt te env (us.drop i) acc' st'
  refine ⟨fun i m H' => m = n - i ∧ i ≤ n ∧ Pv i H', ⟨n, by simp, Nat.zero_le _, F1, ρ1, st1, acc, Sub.refl F1, ⟨[], by simp⟩, c, rfl⟩, ?_⟩
  rintro i m H' ⟨rfl, hi, F', ρ', st', acc', sb, pr, c', e⟩
  have nb' := nb
  rw [e] at nb'
  have dk := dep_of nb'
  obtain ⟨_, _, _, R', _, _, _⟩ := id c'
  have gH := hG F' ρ' st' H' sb pr R' dk
  by_cases hlt : i < n
  · refine .inr ⟨wk.goes i H' hlt gH, Pv (i + 1), fun H2 p' => ⟨n - (i + 1), by omega, rfl, hlt, p'⟩, fun x H2 y => ?_⟩
    have y' := wk.yields i H' x H2 hlt gH y
    obtain ⟨F2, u, ev, R2, hu, iu⟩ := hY i x H' F' ρ' st' H2 sb pr R' dk hlt y'
    rw [drop_of hu] at e nb'
    refine comp_turn (W := W) hvs hD (c'.step ev R2) (E.mono (sb.trans ev.fr) ?_) iu dk nb' wipe_wipe fun F3 ρ3 st3 H3 acc3 c3 e3 s3 p3 => ?_
    · obtain ⟨l, rfl⟩ := pr
      obtain ⟨l', e'⟩ := ev.pre
      exact ⟨l ++ l', by rw [← List.append_assoc]; exact e'⟩
    · refine ⟨F3, ρ3, st3, acc3, (sb.trans ev.fr).trans s3, ?_, c3, e.trans e3⟩
      obtain ⟨l, rfl⟩ := pr
      obtain ⟨l2, rfl⟩ := p3
      exact ⟨l ++ l2, by rw [List.append_assoc]⟩
  · have ei : i = n := by omega
    subst ei
    refine .inl ⟨wk.stops H' gH, ?_⟩
    rw [← hl, List.drop_length] at e
    have e2 : compL dep g tt te env [] acc' st' = .ok acc' st' := by
      conv => lhs; unfold compL
      rw [if_pos dk]
    exact k F' ρ' st' H' acc' c' (e.trans e2) sb pr
theorem lc_go {K : PySem.W.Frag} {W : WX} {s : Bool} {vs vs' : List Nat} {it : MI} {g : MG} {tt : MT} {te : ME} (hvs : ∀ i ∈ vs', i ∈ vs) {σ : L2.St} {H : Hp} {Q : VK} (h : tE K W (mLc s vs it g tt te) σ H Q) :
    tLc (tI K W it) (tG K vs' g) (tT K WN tt) (tE K WN te) vs σ H Q := by
  obtain ⟨F, ρ, st, env, ⟨R, E⟩, p⟩ := h
  refine ⟨F, ρ, st, env, ⟨R, E⟩, Post.bind p fun z st1 J F1 ρ1 H1 _ ev R1 i1 p1 => ?_⟩
  obtain ⟨us, dep⟩ := z
  intro D hD
  obtain ⟨acc, st2, ea, eb⟩ := bindN_ok p1.nb
  rw [eb] at p1
  refine comp_walk (W := W) (F := F1) (ρ := ρ1) (H := H1) hvs hD (CI.start R1 hD) (E.mono ev.fr ev.pre).wipe i1 (fun z => by rw [ea] at z; cases z) fun F2 ρ2 st3 H2 acc2 c2 e2 _ _ => ?_
  rw [ea] at e2
  cases e2
  exact c2.fin hD p1
theorem de_lc {elt tg iter : Expr} {ifs : List Expr} {scope : Scope} {own : List (Str × Nat)} {vs' : List Nat} {pos : Pos} {it : MI} {g : MG} {tt : MT} {te : ME} (s : Bool) (hc : X.calm = true) (hN : X.N.Nodup) (hi : DI X W tg iter it) (ok : BlkOk X.N X.env.scope scope own) (hvs : ∀ i ∈ vs', i ∈ own.map (·.2))
    (hg : ∀ (s : Shared) (H : Hp) (C : Addr) (cl : List (Str × Addr)) (fp : List Addr), DG (X.blk s H scope (compEnvC scope cl C X.env) fp) vs' tg g) (ht : ∀ (s : Shared) (H : Hp) (C : Addr) (cl : List (Str × Addr)) (fp : List Addr), DTs (X.blk s H scope (compEnvC scope cl C X.env) fp) WN ifs tt)
    (he : ∀ (s : Shared) (H : Hp) (C : Addr) (cl : List (Str × Addr)) (fp : List Addr), DE (X.blk s H scope (compEnvC scope cl C X.env) fp) WN elt te) (hs : ∀ x, foldedSetIterable iter X.env x = pure x := by intro _; rfl) :
    DE X W (.ListComp elt [⟨tg, iter, ifs, 0⟩] scope pos) (mLc s (own.map (·.2)) it g tt te) :=
  PE.weak (pe_lc hc hN hi ok hg ht he hs) fun _ _ _ h => lc_go hvs h
/-- y = [..] -/
theorem ds_lc {y : Str} {py : Pos} {elt tg iter : Expr} {ifs : List Expr} {scope : Scope} {own : List (Str × Nat)} {vs' : List Nat} {pos spos : Pos} {it : MI} {g : MG} {tt : MT} {te : ME} (s : Bool) (i : Nat) (hc : X.calm = true) (hN : X.N.Nodup)
    (hsw : swapsWith (.ListComp elt [⟨tg, iter, ifs, 0⟩] scope pos) (some (.Name y py)) spos.line X.env = pure true) (hi : DI X W tg iter it) (ok : BlkOk X.N X.env.scope scope own) (hvs : ∀ i ∈ vs', i ∈ own.map (·.2))
    (hg : ∀ (s : Shared) (H : Hp) (C : Addr) (cl : List (Str × Addr)) (fp : List Addr), DG (X.blk s H scope (compEnvC scope cl C X.env) fp) vs' tg g) (ht : ∀ (s : Shared) (H : Hp) (C : Addr) (cl : List (Str × Addr)) (fp : List Addr), DTs (X.blk s H scope (compEnvC scope cl C X.env) fp) WN ifs tt)
    (he : ∀ (s : Shared) (H : Hp) (C : Addr) (cl : List (Str × Addr)) (fp : List Addr), DE (X.blk s H scope (compEnvC scope cl C X.env) fp) WN elt te) (hy : X.N[i]? = some y := by rfl) (hyl : X.env.scope.names.lookup y = some .local := by rfl) (hs : ∀ x, foldedSetIterable iter X.env x = pure x := by intro _; rfl) :
    DS X W (.Assign [.Name y py] (.ListComp elt [⟨tg, iter, ifs, 0⟩] scope pos) spos) (mSet i (mLc s (own.map (·.2)) it g tt te)) := by
  refine PS.weak (ps_setLc (wi := tI X.K W it) (g := tG X.K vs' g) (tt := tT X.K WN tt) (te := tE X.K WN te) hc hN hy hyl hsw hi ok hg ht he hs) ?_
  rintro D σ H ⟨F, ρ, st, env, ⟨R, E⟩, p⟩
  refine lc_go (W := W) (s := s) hvs ⟨F, ρ, st, env, ⟨R, E⟩, PostS.bind E p fun u st1 v F1 ρ1 H1 _ ev R1 i1 p1 => ?_⟩
  exact p1.nx ⟨R1, (E.mono ev.fr ev.pre).set i1⟩
end
end Dd

set_option Elab.async false
set_option linter.all false
set_option maxRecDepth 100000
set_option maxHeartbeats 1000000
/-! Defs: their promises, their calls. -/
namespace Dd
open PySem PySem.Spec PyProof.Rows L2

/-- what every derivation knows of where it stands -/
structure Ctx (X : Cx) (W : WX) (k : Nat) : Prop where
  room : Room k X.A
  gd : X.A.guards = some []
  tk : L2N.Takes X W
  nd : X.N.Nodup
  calm : X.calm = true
  sys : ∃ o, X.base.get? sysModules = some o
theorem takesN {X : Cx} : L2N.Takes X (fun _ _ _ _ => False) := fun _ _ ⟨_, _, _, _, _, _, _, _, _, _, _, _, _, _, _, _, w⟩ => w.elim
theorem Ctx.blk {X : Cx} {W : WX} {k : Nat} (C : Ctx X W k) {s : Shared} {H : Hp} {scope : Scope} {cenv : Env} {fp : List Addr} : Ctx (X.blk s H scope cenv fp) WN k :=
  ⟨C.room, C.gd, takesN, C.nd, C.calm, C.sys⟩
theorem Ctx.hu {X : Cx} {W : WX} {k : Nat} (C : Ctx X W k) : X.A.units + 64 < cLine := C.room.units
theorem Ctx.hu1 {X : Cx} {W : WX} {k : Nat} (C : Ctx X W k) : X.A.units + 1 < cLine := hu_of C.room

abbrev WEx (E : XK) : WX := fun c d _ H => E c d H
def spG (K : PySem.W.Frag) (m : MF) : Sp := fun vs H Q E => ∃ F ρ st us, Rel K F ρ st H ∧ IRs K F ρ vs us ∧ Post K (WEx E) F ρ [] H (IR K) Q (m us st)
structure RunG (P : Program) (w : World) (K : PySem.W.Frag) (mg : Str → Option Value) (base : Heap) (k : Nat) (f : Addr) (fd : FuncData) (ps : List Str) (m : MF) : Prop where
  run : ∀ (A : Around) (outer : List Env) (s : Shared) (H : Hp) (args : Args) (us : List Value) (vs : List V) (Q : VK) (E : XK), Room k A → A.guards = some [] → Env0 P w K mg base A outer s H → BindsTo s fd args (ps.zip us) → Vals vs us → vs.length = ps.length → spG K m vs H Q E →
    codeAny (model P w) A (.call (.ref f) args) (CR (L2N.CX P w) outer P w H s Q E) s
theorem RunG.mono {P : Program} {w : World} {K : PySem.W.Frag} {mg : Str → Option Value} {base : Heap} {j k : Nat} {f : Addr} {fd : FuncData} {ps : List Str} {m : MF} (F : RunG P w K mg base j f fd ps m) (h : j ≤ k) : RunG P w K mg base k f fd ps m :=
  ⟨fun A outer s H args us vs Q E hr => F.run A outer s H args us vs Q E (hr.mono h)⟩
/-- a weaker function -/
theorem RunG.weak {P : Program} {w : World} {K : PySem.W.Frag} {mg : Str → Option Value} {base : Heap} {k : Nat} {f : Addr} {fd : FuncData} {ps : List Str} {m m' : MF} (F : RunG P w K mg base k f fd ps m) (h : ∀ us st, m' us st = .bad ∨ m' us st = m us st) : RunG P w K mg base k f fd ps m' :=
  ⟨fun A outer s H args us vs Q E hr hg e0 hb hv hl hs => F.run A outer s H args us vs Q E hr hg e0 hb hv hl (by
    obtain ⟨Fh, ρ, st, us, R, i, p⟩ := hs
    refine ⟨Fh, ρ, st, us, R, i, ?_⟩
    rcases h us st with q | q
    · rw [q] at p; exact p.elim
    · rw [← q]; exact p)⟩
/-- a def as the rest sees it: by its name; its defaults -/
structure Fg (P : Program) (w : World) (K : PySem.W.Frag) (mg : Str → Option Value) (base : Heap) (k : Nat) (x : Str) (n : Nat) (dU : List U) (m : MF) : Prop where
  ex : ∃ (f : Addr) (fd : FuncData) (ps : List Str) (dvs : List V), mg x = some (.ref f) ∧ PySem.W.keepIn K (.ref f) = true ∧ RunG P w K mg base k f fd ps m ∧ ps.length = n ∧ (∀ F ρ, IRs K F ρ dvs dU) ∧ ∀ j, j ≤ dU.length → ∃ ds, Vals (dvs.drop j) ds ∧ Binds K fd ps ds
theorem Fg.mono {P : Program} {w : World} {K : PySem.W.Frag} {mg : Str → Option Value} {base : Heap} {j k : Nat} {x : Str} {n : Nat} {dU : List U} {m : MF} (F : Fg P w K mg base j x n dU m) (h : j ≤ k) : Fg P w K mg base k x n dU m :=
  let ⟨f, fd, ps, dvs, a, b, c, d⟩ := F.ex
  ⟨f, fd, ps, dvs, a, b, c.mono h, d⟩
theorem Fg.weak {P : Program} {w : World} {K : PySem.W.Frag} {mg : Str → Option Value} {base : Heap} {k : Nat} {x : Str} {n : Nat} {dU : List U} {m m' : MF} (F : Fg P w K mg base k x n dU m) (h : ∀ us st, m' us st = .bad ∨ m' us st = m us st) : Fg P w K mg base k x n dU m' :=
  let ⟨f, fd, ps, dvs, a, b, c, d⟩ := F.ex
  ⟨f, fd, ps, dvs, a, b, c.weak h, d⟩

section
variable {X : Cx} {W : WX} {k : Nat}
theorem run_g {f : Addr} {fd : FuncData} {ps : List Str} {m : MF} {ds : List Value} {dvs : List V} {pins : List (Addr × Obj)} {σ : L2.St} {H : Hp} {s : Shared} {Q : VK} {us : List Value} {vs : List V} {E : XK} (F : RunG X.prog X.w X.K X.mg X.base k f fd ps m) (hr : Room k X.A) (hgd : X.A.guards = some [])
    (hb : Binds X.K fd ps ds) (hd : Vals dvs ds) (hx : PassesAt (L2N.CX X.prog X.w) X σ E) (I : Inv X pins σ H s) (r : Vals vs us) (hl : (vs ++ dvs).length = ps.length) (h : spG X.K m (vs ++ dvs) H Q E) :
    wpAny (model X.prog X.w) X.A (call (.ref f) us) (EP X pins σ Q) X.xe s := by
  have r2 : Vals (vs ++ dvs) (us ++ ds) := r.append hd
  have hl2 : (us ++ ds).length = ps.length := by rw [← r2.length]; exact hl
  refine wpAny_call (codeAny_mono (F.run X.A X.stack s H ⟨us, []⟩ (us ++ ds) (vs ++ dvs) Q E hr hgd I.env0 (hb s us I.kIn hl2) r2 hl h) fun r s' hq => ?_)
  cases r with
  | error e => exact hx pins H s e s' I hq
  | ok fl =>
    cases fl with
    | ret u => exact I.after hq
    | next => exact False.elim hq
    | brk => exact False.elim hq
    | cont => exact False.elim hq
/-- f(e, ..) -/
def tCG (K : PySem.W.Frag) (n : Nat) (m : MF) (dvs : List V) (W : WX) (t : TA) : TE := fun σ H Q => t σ H fun vs H1 => (vs ++ dvs).length = n ∧ spG K m (vs ++ dvs) H1 Q (WE W σ)
theorem pe_callG {x : Str} {p pos : Pos} {e : Expr} {es : List Expr} {t : TA} {f : Addr} {fd : FuncData} {ps : List Str} {m : MF} {ds : List Value} {dvs : List V} (F : RunG X.prog X.w X.K X.mg X.base k f fd ps m) (C : Ctx X W k) (hg : Gl X x) (hm : X.mg x = some (.ref f)) (hk : PySem.W.keepIn X.K (.ref f) = true)
    (hb : Binds X.K fd ps ds) (hd : Vals dvs ds) (ha : PA X (e :: es) t) (hdb : (x == ("__debug__" : Str)) = false := by decide) (he : starEach (e :: es) X.env = (false, eval e X.env) :: starEach es X.env := by rfl) (hpl : (backTo pos (starEach es X.env)).any (·.1) = false := by rfl) :
    PE X (.Call (.Name x p) (e :: es) [] pos) (tCG X.K ps.length m dvs W t) := by
  refine ⟨fun pins s σ H Q I h => ?_⟩
  refine wpAny_Call_Name_kw (ld_glob I hg hm ?_ hdb)
  refine PySem.W.callWith_K (h₀ := X.base) I.ok.mod.kin hk (thn (ha.run pos pins s σ H _ I h) fun us s1 hh => ?_) he hpl
  obtain ⟨vs, H1, I1, r, hl, q⟩ := hh
  exact ⟨I1.kIn, run_g F C.room C.gd hb hd (L2N.passAt C.tk σ) I1 r hl q⟩
end
/-! ### a call with a store of its own -/
def noRef : List U → Bool
  | [] => true
  | .r _ :: _ => false
  | _ :: r => noRef r
/-- an object without references -/
def obPure : Ob → Bool
  | .lst us => (datas us).isSome
  | .dK kus => (datas (kus.map (·.2))).isSome
  | .dT kus => (datas (kus.map (·.2))).isSome
  | _ => false
/-- what comes back from a store of its own -/
def impR (o : EO U) (st : Sto) : EO U := match o with
  | .ok (.d x) _ => .ok (.d x) st
  | .ok (.e c f x) _ => .ok (.e c f x) st
  | .ok (.k x) _ => .ok (.k x) st
  | .ok (.x _ _ _ _) _ => .bad
  | .ok (.r n) st' => match st'[n]? with
    | some ob => if obPure ob then .ok (.r st.length) (st ++ [ob]) else .bad
    | none => .bad
  | .ok (.s _) _ => .bad
  | .ex x _ => .ex x st
  | .bad => .bad
def mCallP (m : MF) (dU : List U) (a : MA) : ME := fun env st => (a env st).bind fun us st => if noRef us then impR (m (us ++ dU) []) st else .bad
/-- .. with the caller's store -/
def mCallS (m : MF) (dU : List U) (a : MA) : ME := fun env st => (a env st).bind fun us st => m (us ++ dU) st
section
variable {K : PySem.W.Frag} {F F' : Hp} {ρ ρ' : List Addr} {H H' : Hp} {st st' : Sto}
theorem IR.alone {v : V} {u : U} (i : IR K F ρ v u) (h : ∀ n, u ≠ .r n) (ρ' : List Addr) : IR K F ρ' v u := by
  cases i with
  | d i => exact .d i
  | r i => exact absurd rfl (h _)
  | s i => exact .s i
  | e i => exact .e i
  | k i j => exact .k i j
  | x i => exact .x i
theorem IRs.alone (ρ' : List Addr) : ∀ {vs : List V} {us : List U}, IRs K F ρ vs us → noRef us = true → IRs K F ρ' vs us
  | _, _, .nil, _ => .nil
  | _, _, .cons (b := u) (l₂ := us) a b, h => by
    cases u with
    | r n => cases h
    | d x => exact .cons (a.alone (fun _ z => nomatch z) _) (IRs.alone ρ' b h)
    | s x => exact .cons (a.alone (fun _ z => nomatch z) _) (IRs.alone ρ' b h)
    | e c f x => exact .cons (a.alone (fun _ z => nomatch z) _) (IRs.alone ρ' b h)
    | k x => exact .cons (a.alone (fun _ z => nomatch z) _) (IRs.alone ρ' b h)
    | x a' c f x => exact .cons (a.alone (fun _ z => nomatch z) _) (IRs.alone ρ' b h)
theorem Rel.nil (R : Rel K F ρ st H) : Rel K F [] [] H := ⟨R.sub, rfl, by simp, fun i a o h => by simp at h, fun i a o h => by simp at h⟩
/-- behind a call with a store of its own -/
theorem Evo.back (R : Rel K F ρ st H) (ev : Evo F [] H F' ρ' H') : Evo F ρ H F' ρ H' :=
  ⟨ev.fr, ⟨[], by simp⟩, fun a o h _ => ev.keep a o h (by simp), fun a o h => by
    rcases ev.fro a o h with q | q | q
    · exact .inl q
    · exact .inr (.inl q)
    · simp at q, fun _ h => .inl h⟩
theorem Rel.back (R : Rel K F ρ st H) (ev : Evo F [] H F' ρ' H') (R' : Rel K F' ρ' st' H') : Rel K F' ρ st H' := by
  refine ⟨R'.sub, R.len, R.nd, fun i a o h1 h2 => (R.ob i a o h1 h2).mono ev.fr ⟨[], by simp⟩ fun q z => ev.keep a q z (by simp), fun i a o h1 h2 h3 => ?_⟩
  cases e : F' a with
  | none => rfl
  | some q =>
    rcases ev.fro a q e with z | z | z
    · rw [R.fr i a o h1 h2 h3] at z; cases z
    · obtain ⟨q', z'⟩ := R.there (List.mem_of_getElem? h1)
      rw [z] at z'; cases z'
    · simp at z
theorem datas_irs {vs : List V} {us : List U} (h : IRs K F ρ vs us) (p : (datas us).isSome = true) (ρ' : List Addr) : IRs K F ρ' vs us := by
  obtain ⟨xs, e⟩ := Option.isSome_iff_exists.mp p
  rw [datas_eq e] at h ⊢
  exact (IRs.datas h).irs
theorem paired_datas {κ : Type} : ∀ {kvs : List (κ × V)} {kus : List (κ × U)}, Paired (fun (p : κ × V) (q : κ × U) => p.1 = q.1 ∧ IR K F ρ p.2 q.2) kvs kus → (datas (kus.map (·.2))).isSome = true → ∀ ρ', Paired (fun (p : κ × V) (q : κ × U) => p.1 = q.1 ∧ IR K F ρ' p.2 q.2) kvs kus
  | _, _, .nil, _, _ => .nil
  | _, _, .cons (b := q) (l₂ := kus) a b, h, ρ' => by
    obtain ⟨kk, u⟩ := q
    cases u with
    | d x =>
      have h' : ((datas (kus.map (·.2))).map (x :: ·)).isSome = true := h
      rw [Option.isSome_map] at h'
      exact .cons ⟨a.1, a.2.alone (fun _ z => nomatch z) _⟩ (paired_datas b h' ρ')
    | _ => cases h
theorem OR.pure {a : Addr} {ob : Ob} (h : OR K F ρ H a ob) (p : obPure ob = true) (ρ' : List Addr) : OR K F ρ' H a ob := by
  cases ob with
  | lst us => obtain ⟨vs, h1, h2⟩ := h; exact ⟨vs, h1, datas_irs h2 p ρ'⟩
  | dK us => obtain ⟨vs, h1, h2⟩ := h; exact ⟨vs, h1, paired_datas h2 p ρ'⟩
  | dT us => obtain ⟨vs, h1, h2⟩ := h; exact ⟨vs, h1, paired_datas h2 p ρ'⟩
  | ins C fs => cases p
  | gone => cases p
theorem impR_ok {W : WX} {σ : L2.St} {Q : VK} {o : EO U} (R : Rel K F ρ st H) (p : Post K W F ρ σ H (IR K) Q (impR o st)) : Post K (WEx (WE W σ)) F [] [] H (IR K) Q o := by
  cases o with
  | bad => exact p
  | ex x st' => exact fun c d F' ρ' H' ev R' xr => p c d F' ρ H' (Evo.back R ev) (R.back ev R') xr
  | ok u st' =>
    intro v F' ρ' H' ev R' i
    cases u with
    | d x => exact p v F' ρ H' (Evo.back R ev) (R.back ev R') (i.alone (fun _ z => nomatch z) _)
    | e c f x => exact p v F' ρ H' (Evo.back R ev) (R.back ev R') (i.alone (fun _ z => nomatch z) _)
    | s ns => exact p.elim
    | k x => exact p v F' ρ H' (Evo.back R ev) (R.back ev R') (i.alone (fun _ z => nomatch z) _)
    | x a c f x => exact p.elim
    | r n =>
      obtain ⟨a, rfl, ha⟩ := i.r_inv
      unfold impR at p
      dsimp only at p
      split at p
      · rename_i ob hob
        split at p
        · rename_i hp
          have hng : ob ≠ .gone := fun z => by subst z; cases hp
          have hF := R'.fr n a ob ha hob hng
          have hm := List.mem_of_getElem? ha
          have hHa : H a = none := by
            rcases ev.fresh a hm with q | q
            · simp at q
            · exact q
          have np : a ∉ ρ := fun z => by
            obtain ⟨q, z⟩ := R.there z
            rw [hHa] at z; cases z
          have Rb := R.back ev R'
          refine p (.ref a) F' (ρ ++ [a]) H' ⟨ev.fr, ⟨[a], rfl⟩, fun b q h _ => ev.keep b q h (by simp), (Evo.back R ev).fro, fun b h => ?_⟩ (Rb.adopt hF np ((R'.ob n a ob ha hob).pure hp _)) (.r ?_)
          · rcases List.mem_append.mp h with h | h
            · exact .inl h
            · rw [List.mem_singleton.mp h]; exact .inr hHa
          · rw [← R.len, List.getElem?_append_right (Nat.le_refl _)]
            simp
        · exact p.elim
      · exact p.elim
theorem Post.sig {W : WX} {σ τ : L2.St} {α β : Type} {R : Hp → List Addr → β → α → Prop} {Q : β → Hp → Prop} {m : EO α} (h : Post K W F ρ σ H R Q m) : Post K (WEx (WE W σ)) F ρ τ H R Q m := by
  cases m with
  | ok a st => exact h
  | ex x st => exact h
  | bad => exact h
end
section
variable {X : Cx} {W : WX} {k : Nat}
/-- f(e, ..), f with a store of its own; j: the first default that lacks -/
theorem de_call {x : Str} {p pos : Pos} {e : Expr} {es : List Expr} {n : Nat} {dU : List U} {m : MF} {a : MA} (j : Nat) (F : Fg X.prog X.w X.K X.mg X.base k x n dU m) (C : Ctx X W k) (hg : Gl X x) (ha : DA X W (e :: es) a) (hj : j ≤ dU.length) (hn : (e :: es).length + (dU.length - j) = n)
    (hdb : (x == ("__debug__" : Str)) = false := by decide) (he : starEach (e :: es) X.env = (false, eval e X.env) :: starEach es X.env := by rfl) (hpl : (backTo pos (starEach es X.env)).any (·.1) = false := by rfl) (hal : ∀ env st us st', a env st = .ok us st' → us.length = (e :: es).length) :
    DE X W (.Call (.Name x p) (e :: es) [] pos) (mCallP m (dU.drop j) a) := by
  obtain ⟨f, fd, ps, dvs, hm, hk, G, hps, hdv, hbs⟩ := F.ex
  obtain ⟨ds, hd, hb⟩ := hbs j hj
  refine PE.weak (pe_callG G C hg hm hk hb hd ha hdb he hpl) ?_
  rintro σ H Q ⟨Fh, ρ, st, env, ⟨R, E⟩, p⟩
  refine ⟨Fh, ρ, st, env, ⟨R, E⟩, Post.bind p fun us st1 vs F1 ρ1 H1 em ev R1 i1 p1 => ?_⟩
  split at p1
  · rename_i hnr
    have hdl : (dvs.drop j).length = dU.length - j := by rw [List.length_drop, IRs.length (hdv F1 ρ1)]
    refine ⟨by rw [List.length_append, IRs.length i1, hdl, hal _ _ _ _ em, hn, hps], ?_⟩
    exact ⟨F1, [], [], us ++ dU.drop j, R1.nil, IRs.append (IRs.alone [] i1 hnr) (IRs.drop j (hdv F1 [])), impR_ok R1 p1⟩
  · exact p1.elim
theorem de_callS {x : Str} {p pos : Pos} {e : Expr} {es : List Expr} {n : Nat} {dU : List U} {m : MF} {a : MA} (j : Nat) (F : Fg X.prog X.w X.K X.mg X.base k x n dU m) (C : Ctx X W k) (hg : Gl X x) (ha : DA X W (e :: es) a) (hj : j ≤ dU.length) (hn : (e :: es).length + (dU.length - j) = n)
    (hdb : (x == ("__debug__" : Str)) = false := by decide) (he : starEach (e :: es) X.env = (false, eval e X.env) :: starEach es X.env := by rfl) (hpl : (backTo pos (starEach es X.env)).any (·.1) = false := by rfl) (hal : ∀ env st us st', a env st = .ok us st' → us.length = (e :: es).length) :
    DE X W (.Call (.Name x p) (e :: es) [] pos) (mCallS m (dU.drop j) a) := by
  obtain ⟨f, fd, ps, dvs, hm, hk, G, hps, hdv, hbs⟩ := F.ex
  obtain ⟨ds, hd, hb⟩ := hbs j hj
  refine PE.weak (pe_callG G C hg hm hk hb hd ha hdb he hpl) ?_
  rintro σ H Q ⟨Fh, ρ, st, env, ⟨R, E⟩, p⟩
  refine ⟨Fh, ρ, st, env, ⟨R, E⟩, Post.bind p fun us st1 vs F1 ρ1 H1 em ev R1 i1 p1 => ?_⟩
  have hdl : (dvs.drop j).length = dU.length - j := by rw [List.length_drop, IRs.length (hdv F1 ρ1)]
  refine ⟨by rw [List.length_append, IRs.length i1, hdl, hal _ _ _ _ em, hn, hps], ?_⟩
  exact ⟨F1, ρ1, st1, us ++ dU.drop j, R1, IRs.append i1 (IRs.drop j (hdv F1 ρ1)), p1.sig⟩
/-- the number of arguments -/
theorem len_nil {env : En} {st : Sto} {us : List U} {st' : Sto} (h : mNil env st = .ok us st') : us.length = 0 := by cases h; rfl
theorem len_cons {a : ME} {r : MA} {n : Nat} (hr : ∀ env st us st', r env st = .ok us st' → us.length = n) : ∀ env st us st', mCons a r env st = .ok us st' → us.length = n + 1 := by
  intro env st us st' h
  unfold mCons at h
  cases e : a env st with
  | ok u st1 =>
    rw [e] at h
    have h' : (r env st1).bind (fun us st2 => EO.ok (u :: us) st2) = .ok us st' := h
    cases e2 : r env st1 with
    | ok us2 st2 =>
      rw [e2] at h'
      cases h'
      exact congrArg (· + 1) (hr _ _ _ _ e2)
    | ex x st2 => rw [e2] at h'; cases h'
    | bad => rw [e2] at h'; cases h'
  | ex x st1 => rw [e] at h; cases h
  | bad => rw [e] at h; cases h
end
/-! ### a def's body -/
def mFun (n : Nat) (sm : MS) : MF := fun us st => match sm (us.map some ++ List.replicate (n - us.length) none) st with
  | .nx _ st' => .ok (.d .none) st'
  | .rt u st' => .ok u st'
  | .ex x _ st' => .ex x st'
  | _ => .bad
theorem EnR.start {K : PySem.W.Frag} {F : Hp} {ρ : List Addr} {vs : List V} {us : List U} (N : List Str) (h : IRs K F ρ vs us) : EnR K F ρ (start N vs) (us.map some ++ List.replicate (N.length - us.length) none) := by
  have hl := IRs.length h
  refine ⟨by simp [L2.start, hl], fun i u e => ?_⟩
  have hi : i < us.length := by
    by_cases hi : i < us.length
    · exact hi
    · rw [List.getElem?_append_right (by simpa using hi)] at e
      rw [List.getElem?_replicate] at e
      split at e <;> cases e
  rw [List.getElem?_append_left (by simpa using hi), List.getElem?_map] at e
  cases eu : us[i]? with
  | none => rw [eu] at e; cases e
  | some u' =>
    rw [eu] at e; cases e
    obtain ⟨v, h1, h2⟩ := IRs.get h eu
    refine ⟨v, ?_, h2⟩
    unfold L2.start
    rw [List.getElem?_append_left (by simp; omega), List.getElem?_map, h1]
    rfl
section
variable {P : Program} {w : World} {K : PySem.W.Frag} {mg : Str → Option Value} {base : Heap}
theorem runG_of {k : Nat} {f : Addr} {name qual : Str} {params : Arguments} {body : List Stmt} {scope : Scope} {dV kV doc pm cdv ct oc : Value} {an od : Option Addr} {osl : Array (Option Value)} {N ps : List Str} {sm : MS}
    (lk : K.lookup f = some ⟨oc, od, .func (PySem.W.fnOf name qual params body scope dV kV doc pm an cdv ct), osl⟩) (hcd : PySem.W.codeIn K cdv qual = true) (S : FnScope N ps scope) (hsy : ∃ o, base.get? sysModules = some o)
    (hbody : ∀ (A : Around) (outer : List Env) (s : Shared) (H : Hp) (E : XK), Ctx (cxOf (L2N.CX P w) P w K mg base N qual scope f cdv A outer s H E) (WEx E) k → PassesOwn (model P w) (A.deeper (envOfC qual scope s.heap.objs.size f cdv)) (envOfC qual scope s.heap.objs.size f cdv) (cxOf (L2N.CX P w) P w K mg base N qual scope f cdv A outer s H E).xe →
      DSs (cxOf (L2N.CX P w) P w K mg base N qual scope f cdv A outer s H E) (WEx E) body sm) :
    RunG P w K mg base (k + 1) f (PySem.W.fnOf name qual params body scope dV kV doc pm an cdv ct) ps (mFun N.length sm) := by
  refine ⟨fun A outer s H args us vs Q E hr hgd e0 hb r hl hsp => ?_⟩
  have KX : K.In s.heap := e0.mod.kin.keeps fun b o e => (e0.bs b o e).1
  have lim : s.heap.NoLimit := e0.mod.nolimit.keeps fun b o e => (e0.bs b o e).1
  have hkind : ∀ y ∈ ps.zip us, scope.names.lookup y.1 = some .local ∨ (scope.names.lookup y.1 = some .cell ∧ ((cellsFrom (s.heap.objs.size + 1) scope.names []).lookup y.1).isSome = true) := fun ⟨n, v⟩ hy => by
    rcases S.par n (List.of_mem_zip hy).1 with q | q
    · exact .inl q
    · exact .inr ⟨q, PySem.W.cellsFrom_some _ _ _ (.inl q)⟩
  refine codeAny_call_function hr.depth (KX _ _ lk) rfl S.co S.gen rfl (PySem.W.codeRec_of KX hcd) (hb _ _ _ _ ?_)
  refine wpAny_newFunctionEnv_cells S.kind hkind fun env he s1 x => ?_
  subst he
  refine ⟨lim.keeps x.toInCall.keep, codeAny_func ?_⟩
  have C : Ctx (cxOf (L2N.CX P w) P w K mg base N qual scope f cdv A outer s H E) (WEx E) k :=
    ⟨hr.deeper _, hgd, L2N.takes_of rfl rfl rfl rfl, S.nd, rfl, hsy⟩
  have ht := hbody A outer s H E C (passes_of rfl)
  have I : Inv (cxOf (L2N.CX P w) P w K mg base N qual scope f cdv A outer s H E) [] (start N vs) H s1 := inv_start S hr.hd e0 hl r x
  obtain ⟨Fh, ρ, st, uu, R, i, p⟩ := hsp
  have hq : tS K (WEx E) sm { nx := fun _ H' => Q .non H', rt := Q } (start N vs) H := by
    refine ⟨Fh, ρ, st, _, ⟨R, EnR.start N i⟩, ?_⟩
    unfold mFun at p
    cases e : sm (uu.map some ++ List.replicate (N.length - uu.length) none) st with
    | nx env' st' => rw [e] at p; exact fun σ' F' ρ' H' ev g => p .non F' ρ' H' ev g.1 (.d .non)
    | rt u st' => rw [e] at p; exact p
    | ex x env' st' => rw [e] at p; exact fun c d σ' F' ρ' H' ev g xr => p c d F' ρ' H' ev g.1 xr
    | bk env' st' => rw [e] at p; exact p.elim
    | ct env' st' => rw [e] at p; exact p.elim
    | bad => rw [e] at p; exact p.elim
  refine wpAny_mono (ht.run [] s1 (start N vs) H _ I hq) (fun fl s' hs => ?_) fun e s' hs => hs
  have fin : ∀ {σ' : L2.St} {H' : Hp} {v : V} {u : Value}, Inv (cxOf (L2N.CX P w) P w K mg base N qual scope f cdv A outer s H E) [] σ' H' s' → RelV v u → Q v H' → CE outer P w H s Q u s' :=
    fun {σ' H' v u} J rv q => ⟨v, H', J.os, J.bare, J.base, J.hok, rv, q⟩
  cases fl with
  | ret u =>
    obtain ⟨v, σ', H', J, rv, q⟩ := hs
    exact fin J rv q
  | next =>
    obtain ⟨σ', H', J, q⟩ := hs
    exact fin (v := V.non) (u := Value.none) J rfl q
  | brk =>
    obtain ⟨_, _, _, q⟩ := hs
    exact False.elim q
  | cont =>
    obtain ⟨_, _, _, q⟩ := hs
    exact False.elim q
/-- a def without defaults -/
theorem fg_of {k : Nat} {x qual : Str} {params : Arguments} {body : List Stmt} {scope : Scope} {f : Addr} {fd : FuncData} {N ps : List Str} {sm : MS} (F : FunD K x qual params body scope [] [] f fd) (hm : mg x = some (.ref f)) (S : FnScope N ps scope) (hsy : ∃ o, base.get? sysModules = some o)
    (hb : ∀ (kV doc pm : Value) (an : Option Addr) (cdv ct : Value) (us : List Value), us.length = ps.length → bindArgs (PySem.W.fnOf x qual params body scope .none kV doc pm an cdv ct) ⟨us, []⟩ = pure (ps.zip us))
    (hbody : ∀ (cdv : Value) (A : Around) (outer : List Env) (s : Shared) (H : Hp) (E : XK), Ctx (cxOf (L2N.CX P w) P w K mg base N qual scope f cdv A outer s H E) (WEx E) k → PassesOwn (model P w) (A.deeper (envOfC qual scope s.heap.objs.size f cdv)) (envOfC qual scope s.heap.objs.size f cdv) (cxOf (L2N.CX P w) P w K mg base N qual scope f cdv A outer s H E).xe →
      DSs (cxOf (L2N.CX P w) P w K mg base N qual scope f cdv A outer s H E) (WEx E) body sm) : Fg P w K mg base (k + 1) x ps.length [] (mFun N.length sm) := by
  have B := F.bindsN hb
  obtain ⟨oc, od, dV, kV, doc, pm, an, cdv, ct, osl, rfl, lk, hcd, _, _⟩ := F.ex
  exact ⟨f, _, ps, [], hm, F.kp, runG_of lk hcd S hsy (hbody cdv), rfl, fun _ _ => .nil, fun j _ => ⟨[], by rw [List.drop_nil]; exact .nil, B⟩⟩
end
end Dd

set_option Elab.async false
set_option linter.all false
set_option maxRecDepth 100000
set_option maxHeartbeats 2000000
/-! The head's Hook, the law's end. -/
namespace Dd
open PySem PySem.Spec PyProof.Rows L2

abbrev AlE : Type := He.AlD × Bool
def asE (g : Addr → Option Obj) (n : Nat) : List Addr := sysModules :: He.asD g n
def obsE (n : Nat) (fa : List He.Fa) (fn : List He.DefD) (ex : PySem.W.Frag → Bool) (g : Addr → Option Obj) : AlE := (He.obsD fa fn (He.frG g (asE g n)), (((He.frG g (asE g n)).lookup sysModules).isSome && ex (He.frG g (asE g n))))
def hookE (n : Nat) (fa : List He.Fa) (fn : List He.DefD) (ex : PySem.W.Frag → Bool) : PySem.W.Hook where
  α := AlE
  obs := fun s => obsE n fa fn ex s.heap.get?
  val := fun _ => (He.valD fn, true)
  says := fun _ h => ∃ K : PySem.W.Frag, K.In h ∧ He.SaysD fa fn K ∧ (∃ o, K.lookup sysModules = some o) ∧ ex K = true
  of := fun _ _ e => by
    have e2 := congrArg (fun z : AlE => z.2) e
    obtain ⟨h1, h2⟩ := Bool.and_eq_true_iff.mp e2
    exact ⟨_, He.frG_in, congrArg (fun z : AlE => z.1) e, Option.isSome_iff_exists.mp h1, h2⟩
  keeps := fun _ _ _ ⟨K, hK, c⟩ k => ⟨K, PySem.W.Frag.In.keeps hK k, c⟩
theorem obsE_eq {n : Nat} {fa : List He.Fa} {fn : List He.DefD} {ex : PySem.W.Frag → Bool} {g : Addr → Option Obj} {s : Shared} (h : ∀ a, g a = s.heap.get? a) : obsE n fa fn ex g = (hookE n fa fn ex).obs s := by
  have e : g = s.heap.get? := funext h
  rw [e] <;> rfl
/-- the mirror says True of the script -/
def TrueAt (m : MF) (ns : List Int) : Prop := ∃ st, m [.s ns] [] = .ok (.d (.bool true)) st
theorem law_callG {P : Program} {w : World} {K : PySem.W.Frag} {mg mb : Str → Option Value} {k : Nat} {fa a : Addr} {x : Str} {m : MF} {s₁ : Shared} {vs : List Value} {ns : List Int}
    (KX : K.In s₁.heap) (hns : s₁.heap.Ns mainGlobals mg) (hb : s₁.heap.Ns builtinsNs mb) (hbb : ∀ x : Str, x ≠ "__name__" → mb x = bootBuiltins x) (hlim : s₁.heap.NoLimit) (hg : s₁.gens = #[])
    (ha : s₁.heap.get? a = some { cls := .type "list", data := .seq vs.toArray }) (hi : IntsAre vs ns) (hl : ns.length ≤ sizeLine) (hr : Room k callerA) (hmg : mg x = some (.ref fa))
    (G : ∀ base : Heap, K.In base → base.Ns mainGlobals mg → Fg P w K mg base k x 1 [] m) (hm : TrueAt m ns) :
    codeAny (model P w) callerA (.call (.ref fa) ⟨[.ref a], []⟩) (fun r s' => r = .ok (.ret (.bool true)) ∧ OldK s₁.heap s'.heap ∧ s'.os = s₁.os ∧ AllBare s'.gens) s₁ := by
  have rv := vals_ints hi
  have nv := hi.length
  have main : ∀ H : Hp, Only H → SqL K H a (ns.map V.int) → HOk P w H s₁.heap → (∀ b, H b ≠ none → b = a ∧ K.lookup a = none) →
      codeAny (model P w) callerA (.call (.ref fa) ⟨[.ref a], []⟩) (fun r s' => r = .ok (.ret (.bool true)) ∧ OldK s₁.heap s'.heap ∧ s'.os = s₁.os ∧ AllBare s'.gens) s₁ := by
    intro H hO hS hok hA
    have at_a : ∀ {b : Addr} {u : HO}, H b = some u → b = a ∧ K.lookup a = none := fun {b u} q => hA b (by rw [q]; simp)
    have down : ∀ {b : Addr} {f : Str → Option Value}, s₁.heap.Ns b f → (hidT s₁.heap H).Ns b f := fun {b f} ⟨o, es, ep, e, d, r⟩ => by
      refine ⟨o, es, ep, hidT_get e ?_, d, r⟩
      cases q : H b with
      | none => rfl
      | some u =>
        obtain ⟨rfl, _⟩ := at_a q
        rw [ha] at e
        cases e
        cases (show Data.seq vs.toArray _ = Data.dict es ep from d)
    have inK : K.In (hidT s₁.heap H) := fun b o e => by
      refine hidT_get (KX b o e) ?_
      cases q : H b with
      | none => rfl
      | some u =>
        obtain ⟨rfl, z⟩ := at_a q
        rw [z] at e
        cases e
    have md : Mod K mg (hidT s₁.heap H) := ⟨inK, down hns, ⟨mb, down hb, hbb⟩, let ⟨c, h1, h2⟩ := hlim; ⟨c, down h1, h2⟩⟩
    have e0 : Env0 P w K mg (hidT s₁.heap H) callerA [] s₁ H := ⟨rfl, md, fun b o e => of_hidT e, Nat.le_of_eq (hidT_size _ _), trivial, fun b q => absurd (show b ∈ ([] : List Addr) from q) (by simp), hok, .of_eq hg⟩
    obtain ⟨f, fd, ps, dvs, hx, _, RG, hps, hdv, hbs⟩ := (G _ inK (down hns)).ex
    rw [hmg] at hx
    cases hx
    obtain ⟨ds, hd, bd⟩ := hbs 0 (Nat.zero_le _)
    have ed : dvs = [] := by
      have q := IRs.length (hdv (fun _ => none) [])
      exact List.eq_nil_of_length_eq_zero q
    subst ed
    cases hd
    obtain ⟨st', em⟩ := hm
    refine codeAny_mono (RG.run callerA [] s₁ H ⟨[.ref a], []⟩ [.ref a] [.ref a] (fun v _ => v = .bl true) (fun _ _ _ => False) hr rfl e0 (bd s₁ [.ref a] (KX) (by simp [hps])) (.cons rfl .nil) (by simp [hps])
      ⟨H, [], [], [.s ns], ⟨Sub.refl H, rfl, by simp, fun i a o h => by simp at h, fun i a o h => by simp at h⟩, .cons (.s hS) .nil, ?_⟩) fun r s' h => ?_
    · rw [em]
      exact fun b F' ρ' H' _ _ i => i.bl_inv
    · cases r with
      | error e =>
        obtain ⟨_, _, _, _, _, _, _, _, _, _, _, _, z⟩ := h
        exact z.elim
      | ok fl =>
        cases fl with
        | next => exact False.elim h
        | brk => exact False.elim h
        | cont => exact False.elim h
        | ret u =>
          obtain ⟨v, H', os, bare, un, hok', r', q⟩ := h
          obtain rfl : v = .bl true := q
          obtain rfl : u = Value.bool true := r'
          refine ⟨rfl, OldK.of_keep fun b o e => ?_, os, bare⟩
          rcases hO b with z | ⟨ob, xs, z⟩
          · exact un.keep b o e z (by intro q; exact absurd (show b ∈ ([] : List Addr) from q) (by simp)) (by simp)
          · obtain ⟨e1, _⟩ := hok b _ z
            obtain ⟨e2, _⟩ := hok' b _ (un.frzs b ob _ z)
            rw [e] at e1; cases e1
            exact e2
  cases hk : K.lookup a with
  | some o =>
    have e := KX a o hk
    rw [ha] at e
    cases e
    exact main (fun _ => none) (fun _ => .inl rfl) (.inr ⟨_, vs.toArray, _, hk, rfl, rfl, rfl, by rw [List.size_toArray, nv]; exact hl, by simpa using rv⟩) (fun b u z => by cases (show (none : Option HO) = some u from z)) fun b z => absurd rfl z
  | none =>
    have hs : ∀ b : Addr, b ≠ a → (fun b => if b = a then some (HO.frz { cls := .type "list", data := .seq vs.toArray } (.lst (ns.map V.int))) else none) b = none := fun b q => if_neg q
    refine main (fun b => if b = a then some (.frz { cls := .type "list", data := .seq vs.toArray } (.lst (ns.map V.int))) else none) (fun b => ?_) (.inl (.inr ⟨{ cls := .type "list", data := .seq vs.toArray }, if_pos rfl⟩)) (fun b u z => ?_) fun b z => ⟨Classical.byContradiction fun q => z (hs b q), hk⟩
    · by_cases q : b = a
      · exact .inr ⟨_, _, if_pos q⟩
      · exact .inl (hs b q)
    · by_cases q : b = a
      · subst q
        cases (if_pos rfl).symm.trans z
        exact ⟨ha, by rw [List.length_map]; exact hl, vs, _, rv, ha⟩
      · have z' := (hs b q).symm.trans z
        cases z'
theorem walk_ofG {l : PySem.W.OpenLaw} {n k : Nat} {q : Program} {loose : List Str} {XP : (Str → Option Value) → Heap → Prop} {YP : World → Heap → Prop} {d : DefRec} (m : MF)
    (hn : l.most = some n) (hn2 : n ≤ sizeLine) (hdf : d.params.defaults = []) (hr : Room k callerA)
    (F : ∀ (w : World) (mg : Str → Option Value) (fa : Addr) (h : Heap), YP w h → h.Ns mainGlobals mg → mg d.name = some (.ref fa) →
      ∃ K : PySem.W.Frag, K.In h ∧ ∀ base : Heap, K.In base → base.Ns mainGlobals mg → Fg l.prog w K mg base k d.name 1 [] m)
    (hm : ∀ ns : List Int, ns.length ≤ n → TrueAt m ns) : PySem.W.WalkO q loose XP YP l.row.toRowW d [] (fun f vs => PySem.call f vs) := by
  refine Att.attach_call hn hdf fun w s₀ s₁ mg mb fa o pm cd doc a vs ns G Y ho hd hcd hmg hobj hints hlen hg => ?_
  obtain ⟨K, KX, hF⟩ := F w mg fa _ Y G.T.g hmg
  exact law_callG KX G.T.g G.T.b G.T.builtins G.T.nolimit hg hobj hints (Nat.le_trans hlen hn2) hr hmg hF (hm ns hlen)
end Dd

set_option Elab.async false
set_option linter.all false
set_option maxRecDepth 100000
set_option maxHeartbeats 4000000
namespace Dd
open PySem PySem.Spec PyProof.Rows L2
theorem tuple_mul_one (l : Addr) (items : Array Value) (n : Nat) (dd : Option Addr) (sl : Array (Option Value)) (u : Tok) :
    Meets (Builtin.«tuple.__mul__» ⟨[.ref l, .int 1 u], []⟩) (fun _ R s => s.heap.get? l = some { cls := .type "tuple", dict := dd, data := .seq items n, slots := sl } ∧ R (.ok (.ret (Value.ref l))) s) :=
  .of_wp fun prog w A R s h => by
    obtain ⟨hp, g, d, tk, os⟩ := s
    obtain ⟨hl, h⟩ := h
    have f1 := AutoSeq1.idx_int
    have c1 : (items.isEmpty || (1 : Int) == 1) = true := by simp
    wp_walk using wpAny_loadPart' hl
    repeat (first
      | (refine wpAny_ite_false (by decide) ?_; wp_walk using wpAny_loadPart' hl)
      | (refine wpAny_ite_true (decide_eq_true c1) ?_; wp_walk using wpAny_loadPart' hl))
    all_goals first | exact ⟨_, rfl, h⟩ | trace_state
theorem tuple_mul_zero (l : Addr) (items : Array Value) (n : Nat) (dd : Option Addr) (sl : Array (Option Value)) (x : Int) (u : Tok) (c0 : (decide (x < -(2 ^ 63)) || decide (x ≥ 2 ^ 63)) = false) (c1 : (items.isEmpty || x == 1) = false) (c2 : (decide (x ≤ 0) || items.isEmpty) = true) :
    Meets (Builtin.«tuple.__mul__» ⟨[.ref l, .int x u], []⟩) (fun _ R s => s.heap.get? l = some { cls := .type "tuple", dict := dd, data := .seq items n, slots := sl } ∧
      R (.ok (.ret (Value.ref s.heap.objs.size))) { s with heap := s.heap.push { cls := Value.type "tuple", data := Data.seq #[] }, toks := s.toks }) :=
  .of_wp fun prog w A R s h => by
    obtain ⟨hp, g, d, tk, os⟩ := s
    obtain ⟨hl, h⟩ := h
    have f1 := AutoSeq1.idx_int
    wp_walk using wpAny_loadPart' hl
    repeat (first
      | (refine wpAny_ite_false (decide_eq_false (by rw [c0]; exact Bool.false_ne_true)) ?_; wp_walk using wpAny_loadPart' hl)
      | (refine wpAny_ite_false (decide_eq_false (by rw [c1]; exact Bool.false_ne_true)) ?_; wp_walk using wpAny_loadPart' hl)
      | (refine wpAny_ite_true (decide_eq_true c2) ?_; wp_walk using wpAny_loadPart' hl))
    all_goals first | exact ⟨_, rfl, h⟩ | trace_state
end Dd

set_option Elab.async false
set_option linter.all false
set_option maxRecDepth 100000
set_option maxHeartbeats 2000000
/-! Products, chains of comparisons, globals, dicts, methods of lists. -/
namespace Dd
open PySem PySem.Spec PyProof.Rows L2

section
variable {X : Cx} {W : WX} {k : Nat}
/-! ### bad: nothing is said -/
def mBad : ME := fun _ _ => .bad
theorem de_bad {e : Expr} : DE X W e mBad := by
  refine ⟨fun pins s σ H Q I h => ?_⟩
  obtain ⟨F, ρ, st, env, _, p⟩ := h
  exact p.elim
theorem dt_bad {e : Expr} : DT X W e (fun _ _ => .bad) := by
  refine ⟨fun pins s σ H Q I h => ?_⟩
  obtain ⟨F, ρ, st, env, _, p⟩ := h
  exact p.elim
theorem ds_bad {e : Stmt} : DS X W e (fun _ _ => .bad) := by
  refine ⟨fun pins s σ H Q I h => ?_⟩
  obtain ⟨F, ρ, st, env, _, p⟩ := h
  exact p.elim
theorem dss_bad {e : List Stmt} : DSs X W e (fun _ _ => .bad) := by
  refine ⟨fun pins s σ H Q I h => ?_⟩
  obtain ⟨F, ρ, st, env, _, p⟩ := h
  exact p.elim

/-! ### products -/
/-- a tuple, by 1 or fewer -/
def rRep1 (K : PySem.W.Frag) : R2 := fun x y H Q => ∃ l k xs, x = .ref l ∧ y = .int k ∧ SqT K H l xs ∧ xs ≠ [] ∧ -(2 ^ 63) ≤ k ∧ k ≤ 1 ∧ (k = 1 → Q (.ref l) H) ∧ (k ≤ 0 → ∀ p, H p = none → Q (.ref p) (upd H p (.tup [])))
theorem op_rep1 : OpR X (binaryOp .Mult) (rRep1 X.K) := by
  intro pins s σ H x y v u Q I rx ry h
  obtain ⟨l, k, xs, rfl, rfl, hT, hne, h1, h2, q1, q0⟩ := h
  cases rx
  obtain ⟨t, rfl⟩ := ry
  obtain ⟨its, r, ⟨⟨cls, dd, data, sl⟩, ho, hc, n, hd⟩, hs⟩ := I.tuple hT
  simp only at hc hd
  subst hc hd
  have hi : its.toArray.isEmpty = false := by
    cases its with
    | nil => cases r; exact absurd rfl hne
    | cons a b => rfl
  have c0 : (decide (k < -(2 ^ 63)) || decide (k ≥ 2 ^ 63)) = false := by
    rw [decide_eq_false (by omega), decide_eq_false (by omega)] <;> rfl
  by_cases e : k = 1
  · subst e
    exact wpAny_binaryOp_repeat_ref (T := "tuple") (U := "int") (by decide) ⟨_, ho, rfl⟩ (fun s' => typeIs_int s' 1 t) noFill_tuple_mul F.fills_int_mul F.slot_int_rmul repeat_tuple F.slot_int_index.lookup
      (call_meets F.slot_int_rmul (typeIs_int s 1 t) F.entry_int_rmul (F.args_int_rmul_2 _ _) (int_rmul_tuple 1 t l its.toArray n dd sl)
        ⟨ho, rfl, ⟨_, ho, rfl⟩, call_meets F.slot_tuple_mul ⟨_, ho, rfl⟩ F.entry_tuple_mul (F.args_tuple_mul_2 _ _) (tuple_mul_one l its.toArray n dd sl t) ⟨ho, ⟨.ref l, H, I, rfl, q1 rfl⟩⟩⟩)
  · have c1 : (its.toArray.isEmpty || k == 1) = false := by
      rw [hi, Bool.false_or]
      exact beq_eq_false_iff_ne.mpr e
    have c2 : (decide (k ≤ 0) || its.toArray.isEmpty) = true := by
      rw [decide_eq_true (by omega)] <;> rfl
    refine wpAny_binaryOp_repeat_ref (T := "tuple") (U := "int") (by decide) ⟨_, ho, rfl⟩ (fun s' => typeIs_int s' k t) noFill_tuple_mul F.fills_int_mul F.slot_int_rmul repeat_tuple F.slot_int_index.lookup
      (call_meets F.slot_int_rmul (typeIs_int s k t) F.entry_int_rmul (F.args_int_rmul_2 _ _) (int_rmul_tuple k t l its.toArray n dd sl)
        ⟨ho, rfl, ⟨_, ho, rfl⟩, call_meets F.slot_tuple_mul ⟨_, ho, rfl⟩ F.entry_tuple_mul (F.args_tuple_mul_2 _ _) (tuple_mul_zero l its.toArray n dd sl k t c0 c1 c2) ⟨ho, ?_⟩⟩)
    refine ⟨.ref s.heap.objs.size, _, I.laid (t' := s.toks) (o := .tup []) (fun b ob q => Heap.get?_push_of_some _ q) (Nat.le_refl _) ?_, rfl, q0 (by omega) _ (I.hok.fresh (Nat.le_refl _))⟩
    exact ⟨by rw [sizeLine_eq]; exact Nat.zero_le _, [], .nil, IsTup.new _ _⟩
def rMulA (K : PySem.W.Frag) : R2 := fun x y H Q => ((rI CMulW fun i j => .int (i * j)) x y H Q ∨ rRep x y H Q) ∨ rRep1 K x y H Q ∨ rRepT K x y H Q
theorem op_mulA : OpR X (binaryOp .Mult) (rMulA X.K) := (op_mulW.or op_rep).or (op_rep1.or op_repT)
def repL {α : Type} (k : Int) (us : List α) : List α := (List.replicate k.toNat us).flatten
theorem IRs.rep {K : PySem.W.Frag} {F : Hp} {ρ : List Addr} {vs : List V} {us : List U} (r : IRs K F ρ vs us) : ∀ n : Nat, IRs K F ρ (List.replicate n vs).flatten (List.replicate n us).flatten
  | 0 => .nil
  | n + 1 => by rw [List.replicate_succ, List.replicate_succ, List.flatten_cons, List.flatten_cons]; exact r.append (IRs.rep r n)
theorem DRs.rep {K : PySem.W.Frag} {F : Hp} {vs : List V} {us : List PyData} (r : DRs K F vs us) : ∀ n : Nat, DRs K F (List.replicate n vs).flatten (List.replicate n us).flatten
  | 0 => .nil
  | n + 1 => by rw [List.replicate_succ, List.replicate_succ, List.flatten_cons, List.flatten_cons]; exact r.append (DRs.rep r n)
def dMul (s : Bool) : U → U → Sto → EO U := fun u w st => match u, w with
  | .d (.int i), .d (.int j) => if i.natAbs.log2 + j.natAbs.log2 < 1000000 then .ok (.d (.int (i * j))) st else .bad
  | .d (.list xs), .d (.int k) => if -(2 ^ 63) ≤ k ∧ k < 2 ^ 63 ∧ xs.length * k.toNat ≤ 10000000 then mkL s ((repL k xs).map .d) st else .bad
  | .d (.tuple xs), .d (.int k) => if xs ≠ [] ∧ -(2 ^ 63) ≤ k ∧ k ≤ 1000 ∧ xs.length ≤ 1000 then .ok (.d (.tuple (repL k xs))) st else .bad
  | .r n, .d (.int k) => match st[n]? with
    | some (.lst us) => if -(2 ^ 63) ≤ k ∧ k < 2 ^ 63 ∧ us.length * k.toNat ≤ 10000000 then mkL s (repL k us) st else .bad
    | _ => .bad
  | _, _ => .bad
theorem d2_mul {K : PySem.W.Frag} {s : Bool} : D2 K (rMulA K) (dMul s) := by
  intro W F ρ st σ H Q x y u w R i1 i2 p
  unfold dMul at p
  split at p
  · split at p
    · rename_i c
      rw [i1.int_inv, i2.int_inv]
      exact .inl (.inl ⟨_, _, rfl, rfl, c, p.ok R (.d (.int _))⟩)
    · exact p.elim
  · split at p
    · rename_i c
      obtain ⟨a, vs, rfl, h1, r1⟩ := i1.lst_inv
      rw [i2.int_inv]
      refine .inl (.inr ⟨a, _, vs, rfl, rfl, R.sub _ _ h1, c.1, c.2.1, line10 (by rw [r1.length]; exact c.2.2), fun q hq => mkL_ok R ?_ p hq⟩)
      exact (r1.rep _).irs
    · exact p.elim
  · rename_i xs k
    split at p
    · rename_i c
      obtain ⟨a, vs, rfl, h1, r1⟩ := i1.tup_inv
      rw [i2.int_inv]
      have hv : vs ≠ [] := fun e => by
        subst e; cases r1
        exact c.1 rfl
      by_cases hk : k ≤ 1
      · refine .inr (.inl ⟨a, k, vs, rfl, rfl, R.sub.sqT h1, hv, c.2.1, hk, fun e => ?_, fun e => fun q hq => ?_⟩)
        · subst e
          have e1 : repL 1 xs = xs := by simp [repL]
          rw [e1] at p
          exact p.ok R i1
        · have e1 : repL k xs = [] := by
            unfold repL
            rw [show k.toNat = 0 by omega]; rfl
          rw [e1] at p
          exact mkT_ok R .nil p hq
      · refine .inr (.inr ⟨a, k, vs, rfl, rfl, R.sub.sqT h1, hv, by omega, c.2.2.1, by rw [r1.length]; exact c.2.2.2, fun q hq => mkT_ok R (r1.rep _) p hq⟩)
    · exact p.elim
  · obtain ⟨a, rfl, ha⟩ := i1.r_inv
    split at p
    · rename_i us hs
      split at p
      · rename_i c
        obtain ⟨vs, h1, r1⟩ := R.ob _ _ _ ha hs
        rw [i2.int_inv]
        exact .inl (.inr ⟨a, _, vs, rfl, rfl, h1, c.1, c.2.1, line10 (by rw [IRs.length r1]; exact c.2.2), fun q hq => mkL_ok R (IRs.rep r1 _) p hq⟩)
      · exact p.elim
    · exact p.elim
  · exact p.elim
theorem de_mul {a b : Expr} {pos : Pos} {ma mb : ME} (s : Bool) (ha : DE X W a ma) (hb : DE X W b mb) : DE X W (.BinOp a .Mult b pos) (mBin (dMul s) ma mb) := de_op op_mulA d2_mul ha hb

/-! ### a op b op c -/
def mChain (o o' : U → U → Sto → EO U) (a b c : ME) : ME := fun env st => (a env st).bind fun u st => (b env st).bind fun w st => (o u w st).bind fun t st => match t with
  | .d (.bool true) => (c env st).bind fun z st => o' w z st
  | .d (.bool false) => .ok (.d (.bool false)) st
  | _ => .bad
theorem chain_go {r r' : R2} {o o' : U → U → Sto → EO U} {a b c : ME} (hr : D2 X.K r o) (hr' : D2 X.K r' o') {σ : L2.St} {H : Hp} {Q : VK} (h : tE X.K W (mChain o o' a b c) σ H Q) : tChain r r' (tE X.K W a) (tE X.K W b) (tE X.K W c) σ H Q := by
  obtain ⟨F, ρ, st, env, ⟨R, E⟩, p⟩ := h
  refine ⟨F, ρ, st, env, ⟨R, E⟩, Post.bind p fun u st1 x F1 ρ1 H1 _ ev R1 i1 p1 => ?_⟩
  refine ⟨F1, ρ1, st1, env, ⟨R1, E.mono ev.fr ev.pre⟩, Post.bind p1 fun w st2 y F2 ρ2 H2 _ ev2 R2 i2 p2 => ?_⟩
  refine hr R2 (i1.mono ev2.fr ev2.pre) i2 (Post.bind p2 fun t st3 z F3 ρ3 H3 _ ev3 R3 i3 p3 => ?_)
  split at p3
  · refine ⟨true, i3.bl_inv, ?_⟩
    rw [if_pos rfl]
    refine ⟨F3, ρ3, st3, env, ⟨R3, ((E.mono ev.fr ev.pre).mono ev2.fr ev2.pre).mono ev3.fr ev3.pre⟩, Post.bind p3 fun z st4 zv F4 ρ4 H4 _ ev4 R4 i4 p4 => ?_⟩
    exact hr' R4 ((i2.mono ev3.fr ev3.pre).mono ev4.fr ev4.pre) i4 p4
  · refine ⟨false, i3.bl_inv, ?_⟩
    rw [if_neg Bool.false_ne_true]
    exact p3.ok R3 (.d (.bl _))
  · exact p3.elim
theorem de_chain {a b c : Expr} {op op' : CmpOp} {pos : Pos} {r r' : R2} {o o' : U → U → Sto → EO U} {ma mb mc : ME} (ho : OpR X (compareOp op) r) (hr : D2 X.K r o) (ho' : OpR X (compareOp op') r') (hr' : D2 X.K r' o') (ha : DE X W a ma) (hb : DE X W b mb) (hc : DE X W c mc)
    (hm : lastMarks [op, op'] [b, c] = false := by with_unfolding_all rfl) : DE X W (.Compare a [op, op'] [b, c] pos) (mChain o o' ma mb mc) :=
  PE.weak (pe_chain ho ho' ha hb hc hm) fun _ _ _ h => chain_go hr hr' h
theorem dt_chain {a b c : Expr} {op op' : CmpOp} {pos : Pos} {r r' : R2} {o o' : U → U → Sto → EO U} {ma mb mc : ME} (ho : OpR X (compareOp op) r) (hr : D2 X.K r o) (ho' : OpR X (compareOp op') r') (hr' : D2 X.K r' o') (ha : DE X W a ma) (hb : DE X W b mb) (hc : DE X W c mc)
    (hm : lastMarks [op, op'] [b, c] = false := by with_unfolding_all rfl) : DT X W (.Compare a [op, op'] [b, c] pos) (mTest (mChain o o' ma mb mc)) :=
  PT.weak (pt_chain ho ho' ha hb hc hm) fun σ H Q q => chain_go hr hr' (W := W) (by
    obtain ⟨F, ρ, st, env, ⟨R, E⟩, p⟩ := q
    refine ⟨F, ρ, st, env, ⟨R, E⟩, Post.bind p fun u st1 x F1 ρ1 H1 _ ev R1 i1 p1 => ?_⟩
    split at p1
    · exact ⟨_, i1.bl_inv, p1.ok R1 rfl⟩
    · exact p1.elim)
/-! ### a global constant -/
theorem de_glob {x : Str} {v : V} {u : Value} {d : PyData} {pos : Pos} (hg : Gl X x) (hm : X.mg x = some u) (r : RelV v u) (rd : ∀ F, DR X.K F v d) (hd : (x == ("__debug__" : Str)) = false := by decide) : DE X W (.Name x pos) (mD d) := de_c (pe_glob hg hm r hd) rd
end
end Dd

set_option Elab.async false
set_option linter.all false
set_option maxRecDepth 100000
set_option maxHeartbeats 2000000
/-! Dicts, methods of lists. -/
namespace Dd
open PySem PySem.Spec PyProof.Rows L2

/-! ### tables -/
section
variable {κ : Type} [DecidableEq κ]
def lookU (kus : List (κ × U)) (k : κ) : Option U := (kus.find? fun kv => decide (kv.1 = k)).map (·.2)
def putU (kus : List (κ × U)) (k : κ) (u : U) : List (κ × U) := if (kus.any fun kv => decide (kv.1 = k)) = true then kus.map (fun kv => if kv.1 = k then (kv.1, u) else kv) else kus ++ [(k, u)]
abbrev KR (K : PySem.W.Frag) (F : Hp) (ρ : List Addr) : List (κ × V) → List (κ × U) → Prop := Paired fun (p : κ × V) (q : κ × U) => p.1 = q.1 ∧ IR K F ρ p.2 q.2
variable {K : PySem.W.Frag} {F : Hp} {ρ : List Addr}
theorem KR.look : ∀ {kvs : List (κ × V)} {kus : List (κ × U)} (k : κ), KR K F ρ kvs kus → (lookU kus k = none → valV kvs k = none) ∧ ∀ u, lookU kus k = some u → ∃ v, valV kvs k = some v ∧ IR K F ρ v u
  | _, _, _, .nil => ⟨fun _ => rfl, fun u h => by cases h⟩
  | _, _, k, .cons (a := p) (b := q) (l₁ := l1) (l₂ := l2) a b => by
    have ih := KR.look k b
    have e1 : lookU (q :: l2) k = if q.1 = k then some q.2 else lookU l2 k := by
      unfold lookU; rw [List.find?_cons]
      by_cases e : q.1 = k
      · rw [if_pos e, decide_eq_true e]; rfl
      · rw [if_neg e, decide_eq_false e]
    rw [e1]
    by_cases e : q.1 = k
    · rw [if_pos e, valV_pos (a.1.trans e)]
      exact ⟨fun z => (by cases z), fun u z => (by cases z; exact ⟨_, rfl, a.2⟩)⟩
    · rw [if_neg e, valV_neg (fun z => e (a.1.symm.trans z))]
      exact ih
theorem KR.any {kvs : List (κ × V)} {kus : List (κ × U)} (r : KR K F ρ kvs kus) (k : κ) : (kvs.any fun kv => decide (kv.1 = k)) = kus.any fun kv => decide (kv.1 = k) := by
  induction r with
  | nil => rfl
  | cons a _ ih => rw [List.any_cons, List.any_cons, ih, a.1]
theorem KR.append {kvs kvs' : List (κ × V)} {kus kus' : List (κ × U)} (r : KR K F ρ kvs kus) (r' : KR K F ρ kvs' kus') : KR K F ρ (kvs ++ kvs') (kus ++ kus') := by
  induction r with
  | nil => exact r'
  | cons a _ ih => exact .cons a ih
theorem KR.repl (k : κ) {v : V} {u : U} (i : IR K F ρ v u) : ∀ {kvs : List (κ × V)} {kus : List (κ × U)}, KR K F ρ kvs kus → KR K F ρ (kvs.map fun kv => if kv.1 = k then (kv.1, v) else kv) (kus.map fun kv => if kv.1 = k then (kv.1, u) else kv)
  | _, _, .nil => .nil
  | _, _, .cons (a := a) (b := b) h t => by
    refine .cons ?_ (KR.repl k i t)
    show (if a.1 = k then (a.1, v) else a).1 = (if b.1 = k then (b.1, u) else b).1 ∧ IR K F ρ (if a.1 = k then (a.1, v) else a).2 (if b.1 = k then (b.1, u) else b).2
    by_cases e : b.1 = k
    · rw [if_pos e, if_pos (h.1.trans e)]; exact ⟨h.1, i⟩
    · rw [if_neg e, if_neg (fun z => e (h.1.symm.trans z))]; exact h
theorem KR.put {kvs : List (κ × V)} {kus : List (κ × U)} (r : KR K F ρ kvs kus) (k : κ) {v : V} {u : U} (i : IR K F ρ v u) : KR K F ρ (putK kvs k v) (putU kus k u) := by
  unfold putK putU
  rw [KR.any r]
  split
  · exact KR.repl k i r
  · exact KR.append r (.cons ⟨rfl, i⟩ .nil)
theorem KR.length {kvs : List (κ × V)} {kus : List (κ × U)} (r : KR K F ρ kvs kus) : kvs.length = kus.length := Paired.length r
end
/-! ### keys -/
def keyOf : U → Option Key
  | .d (.int i) => some (.inl i)
  | .d (.str x) => some (.inr x)
  | _ => none
def keysD : List PyData → Option (List Key)
  | [] => some []
  | .int i :: r => (keysD r).map (.inl i :: ·)
  | .str x :: r => (keysD r).map (.inr x :: ·)
  | _ :: _ => none
def tkeyOf : U → Option (List Key)
  | .d (.tuple xs) => keysD xs
  | _ => none
section
variable {K : PySem.W.Frag} {W : WX} {F : Hp} {ρ : List Addr} {st : Sto} {H : Hp}
theorem keyOf_ok {v : V} {u : U} {k : Key} (i : IR K F ρ v u) (h : keyOf u = some k) : v = kV k := by
  unfold keyOf at h
  split at h
  · cases h; rw [i.int_inv]; rfl
  · cases h; rw [i.str_inv]; rfl
  · cases h
theorem keysD_ok : ∀ {vs : List V} {xs : List PyData} {ks : List Key}, DRs K F vs xs → keysD xs = some ks → vs = ks.map kV
  | _, _, _, .nil, h => by cases h; rfl
  | _, _, ks, .cons (x := x) (xs := xs) a b, h => by
    cases x with
    | int j =>
      have h' : (keysD xs).map ((Sum.inl j : Key) :: ·) = some ks := h
      cases e : keysD xs with
      | none => rw [e] at h'; cases h'
      | some r => rw [e] at h'; cases h'; cases a; rw [keysD_ok b e]; rfl
    | str j =>
      have h' : (keysD xs).map ((Sum.inr j : Key) :: ·) = some ks := h
      cases e : keysD xs with
      | none => rw [e] at h'; cases h'
      | some r => rw [e] at h'; cases h'; cases a; rw [keysD_ok b e]; rfl
    | _ => cases h
theorem tkeyOf_ok {v : V} {u : U} {k : List Key} (i : IR K F ρ v u) (h : tkeyOf u = some k) : ∃ b, v = .ref b ∧ F b = some (.tup (k.map kV)) := by
  unfold tkeyOf at h
  split at h
  · obtain ⟨a, vs, rfl, h1, h2⟩ := i.tup_inv'
    exact ⟨a, rfl, by rw [h1, keysD_ok h2 h]⟩
  · cases h
/-- something of the store is written -/
theorem put_ok {σ : L2.St} {Q : VK} {n : Nat} {a : Addr} {ob0 ob : Ob} {o : HO} {z : U} {v : V} (R : Rel K F ρ st H) (p : Post K W F ρ σ H (IR K) Q (.ok z (st.set n ob))) (ha : ρ[n]? = some a) (h0 : st[n]? = some ob0) (hg : ob0 ≠ .gone) (ho : OR K F ρ (upd H a o) a ob) (i : IR K F ρ v z) : Q v (upd H a o) :=
  p v F ρ _ (Evo.write R (List.mem_of_getElem? ha)) (R.write ha h0 hg ho) i
theorem putS_ok {D : Ends} {σ : L2.St} {env : En} {n : Nat} {a : Addr} {ob0 ob : Ob} {o : HO} (R : Rel K F ρ st H) (E : EnR K F ρ σ env) (p : PostS K W F ρ H D (.nx env (st.set n ob))) (ha : ρ[n]? = some a) (h0 : st[n]? = some ob0) (hg : ob0 ≠ .gone) (ho : OR K F ρ (upd H a o) a ob) : D.nx σ (upd H a o) :=
  p σ F ρ _ (Evo.write R (List.mem_of_getElem? ha)) ⟨R.write ha h0 hg ho, E⟩
end
/-! ### d[k] -/
def dGet (u w : U) (st : Sto) : Option (Option U) := match u with
  | .r n => match st[n]? with
    | some (.dK kus) => (keyOf w).map (lookU kus)
    | some (.dT kus) => (tkeyOf w).map (lookU kus)
    | _ => none
  | _ => none
def OVR (K : PySem.W.Frag) (F : Hp) (ρ : List Addr) (ov : Option V) : Option U → Prop
  | none => ov = none
  | some u => ∃ v, ov = some v ∧ IR K F ρ v u
theorem dGet_ok {K : PySem.W.Frag} {F : Hp} {ρ : List Addr} {st : Sto} {H : Hp} {x y : V} {u w : U} {o : Option U} (R : Rel K F ρ st H) (i1 : IR K F ρ x u) (i2 : IR K F ρ y w) (h : dGet u w st = some o) :
    ∃ a ov, x = .ref a ∧ DGet H a y ov ∧ OVR K F ρ ov o := by
  cases u with
  | r n =>
    obtain ⟨a, rfl, ha⟩ := i1.r_inv
    have h' : (match st[n]? with
      | some (.dK kus) => (keyOf w).map (lookU kus)
      | some (.dT kus) => (tkeyOf w).map (lookU kus)
      | _ => none) = some o := h
    cases hs : st[n]? with
    | none => rw [hs] at h'; cases h'
    | some ob =>
      rw [hs] at h'
      cases ob with
      | dK kus =>
        obtain ⟨kvs, h1, h2⟩ := R.ob _ _ _ ha hs
        cases e : keyOf w with
        | none => rw [e] at h'; cases h'
        | some k =>
          rw [e] at h'; cases h'
          rw [keyOf_ok i2 e]
          refine ⟨a, _, rfl, DGet.k h1, ?_⟩
          have q := KR.look k h2
          cases el : lookU kus k with
          | none => exact q.1 el
          | some u => exact q.2 u el
      | dT kus =>
        obtain ⟨kvs, h1, h2⟩ := R.ob _ _ _ ha hs
        cases e : tkeyOf w with
        | none => rw [e] at h'; cases h'
        | some k =>
          rw [e] at h'; cases h'
          obtain ⟨b, rfl, hb⟩ := tkeyOf_ok i2 e
          refine ⟨a, _, rfl, DGet.t h1 (R.sub _ _ hb), ?_⟩
          have q := KR.look k h2
          cases el : lookU kus k with
          | none => exact q.1 el
          | some u => exact q.2 u el
      | _ => cases h'
  | _ => cases h
section
variable {X : Cx} {W : WX} {k : Nat}
def dKey : U → U → Sto → EO U := fun u w st => match dGet u w st with
  | some (some z) => .ok z st
  | _ => .bad
def rKey : R2 := fun x y H Q => ∃ a v, x = .ref a ∧ DGet H a y (some v) ∧ Q v H
theorem d2_key {K : PySem.W.Frag} : D2 K rKey dKey := by
  intro W F ρ st σ H Q x y u w R i1 i2 p
  unfold dKey at p
  split at p
  · rename_i z h
    obtain ⟨a, ov, rfl, g, v, rfl, i⟩ := dGet_ok R i1 i2 h
    exact ⟨a, v, rfl, g, p.ok R i⟩
  · exact p.elim
theorem de_key {a b : Expr} {pos : Pos} {ma mb : ME} (C : Ctx X W k) (ha : DE X W a ma) (hb : DE X W b mb) (hs : NoSl b := by intro _ _; rfl) : DE X W (.Subscript a b pos) (mBin dKey ma mb) :=
  PE.weak (pe_dget C.hu1 ha hb hs) fun _ _ _ h => bin_go (r := rKey) d2_key h
/-- k in d -/
def dHas (neg : Bool) : U → U → Sto → EO U := fun w u st => match dGet u w st with
  | some o => .ok (.d (.bool (if neg then !o.isSome else o.isSome))) st
  | none => .bad
theorem de_has {a b : Expr} {pos : Pos} {ma mb : ME} (C : Ctx X W k) (ha : DE X W a ma) (hb : DE X W b mb) (hm : behindInMarks .In b = false := by rfl) : DE X W (.Compare a [.In] [b] pos) (mBin (dHas false) ma mb) := by
  refine PE.weak (pe_cmp (pc_din C.hu1 ha hb) hm) ?_
  rintro σ H Q ⟨F, ρ, st, env, ⟨R, E⟩, p⟩
  refine ⟨F, ρ, st, env, ⟨R, E⟩, Post.bind p fun u st1 x F1 ρ1 H1 _ ev R1 i1 p1 => ?_⟩
  refine ⟨F1, ρ1, st1, env, ⟨R1, E.mono ev.fr ev.pre⟩, Post.bind p1 fun w st2 y F2 ρ2 H2 _ ev2 R2 i2 p2 => ?_⟩
  unfold dHas at p2
  split at p2
  · rename_i o h
    obtain ⟨a, ov, rfl, g, e⟩ := dGet_ok R2 i2 (i1.mono ev2.fr ev2.pre) h
    refine ⟨a, ov, rfl, g, p2.ok R2 ?_⟩
    have eo : ov.isSome = o.isSome := by
      cases o with
      | none => rw [show ov = none from e]; rfl
      | some u => obtain ⟨v, rfl, _⟩ := e; rfl
    rw [eo]; exact .d (.bl _)
  · exact p2.elim
theorem de_hasnt {a b : Expr} {pos : Pos} {ma mb : ME} (C : Ctx X W k) (ha : DE X W a ma) (hb : DE X W b mb) (hm : behindInMarks .NotIn b = false := by rfl) : DE X W (.Compare a [.NotIn] [b] pos) (mBin (dHas true) ma mb) := by
  refine PE.weak (pe_cmp (pc_dnotin C.hu1 ha hb) hm) ?_
  rintro σ H Q ⟨F, ρ, st, env, ⟨R, E⟩, p⟩
  refine ⟨F, ρ, st, env, ⟨R, E⟩, Post.bind p fun u st1 x F1 ρ1 H1 _ ev R1 i1 p1 => ?_⟩
  refine ⟨F1, ρ1, st1, env, ⟨R1, E.mono ev.fr ev.pre⟩, Post.bind p1 fun w st2 y F2 ρ2 H2 _ ev2 R2 i2 p2 => ?_⟩
  unfold dHas at p2
  split at p2
  · rename_i o h
    obtain ⟨a, ov, rfl, g, e⟩ := dGet_ok R2 i2 (i1.mono ev2.fr ev2.pre) h
    refine ⟨a, ov, rfl, g, p2.ok R2 ?_⟩
    have eo : ov.isSome = o.isSome := by
      cases o with
      | none => rw [show ov = none from e]; rfl
      | some u => obtain ⟨v, rfl, _⟩ := e; rfl
    rw [eo]; exact .d (.bl _)
  · exact p2.elim
/-! ### d[k] = v -/
def dPut (u w z : U) (env : En) (st : Sto) : SO := match u with
  | .r n => match st[n]? with
    | some (.dK kus) => match keyOf w with
      | some k => if kus.length < 10000000 then .nx env (st.set n (.dK (putU kus k z))) else .bad
      | none => .bad
    | some (.dT kus) => match tkeyOf w with
      | some k => if kus.length < 10000000 then .nx env (st.set n (.dT (putU kus k z))) else .bad
      | none => .bad
    | _ => .bad
  | _ => .bad
def mPut (md mk mv : ME) : MS := fun env st => (mv env st).thenS env fun z st => (md env st).thenS env fun u st => (mk env st).thenS env fun w st => dPut u w z env st
theorem ds_put {o i value : Expr} {pos pos' : Pos} {md mk mv : ME} (C : Ctx X W k) (ho : DE X W o md) (hi : DE X W i mk) (hv : DE X W value mv) (hs : swapsWith value (some (.Subscript o i pos')) pos.line X.env = pure false := by rfl) :
    DS X W (.Assign [.Subscript o i pos'] value pos) (mPut md mk mv) := by
  refine PS.weak (ps_dput C.hu1 ho hi hv hs) ?_
  rintro D σ H ⟨F, ρ, st, env, ⟨R, E⟩, p⟩
  refine ⟨F, ρ, st, env, ⟨R, E⟩, PostS.bind E p fun z st1 v F1 ρ1 H1 _ ev R1 i1 p1 => ?_⟩
  have E1 := E.mono ev.fr ev.pre
  refine ⟨F1, ρ1, st1, env, ⟨R1, E1⟩, PostS.bind E1 p1 fun u st2 x F2 ρ2 H2 _ ev2 R2 i2 p2 => ?_⟩
  have E2 := E1.mono ev2.fr ev2.pre
  refine ⟨F2, ρ2, st2, env, ⟨R2, E2⟩, PostS.bind E2 p2 fun w st3 y F3 ρ3 H3 _ ev3 R3 i3 p3 => ?_⟩
  have E3 := E2.mono ev3.fr ev3.pre
  have j1 := (i1.mono ev2.fr ev2.pre).mono ev3.fr ev3.pre
  have j2 := i2.mono ev3.fr ev3.pre
  unfold dPut at p3
  split at p3
  · obtain ⟨a, rfl, ha⟩ := j2.r_inv
    split at p3
    · rename_i kus hs
      split at p3
      · rename_i kk hk
        split at p3
        · rename_i hz
          obtain ⟨kvs, h1, h2⟩ := R3.ob _ _ _ ha hs
          rw [keyOf_ok i3 hk]
          exact ⟨a, _, rfl, DPut.k h1 (line10' (by rw [KR.length h2]; exact hz)), putS_ok R3 E3 p3 ha hs (fun z => nomatch z) ⟨_, upd_same, KR.put h2 kk j1⟩⟩
        · exact p3.elim
      · exact p3.elim
    · rename_i kus hs
      split at p3
      · rename_i kk hk
        split at p3
        · rename_i hz
          obtain ⟨kvs, h1, h2⟩ := R3.ob _ _ _ ha hs
          obtain ⟨b, rfl, hb⟩ := tkeyOf_ok i3 hk
          exact ⟨a, _, rfl, DPut.t h1 (R3.sub _ _ hb) (line10' (by rw [KR.length h2]; exact hz)), putS_ok R3 E3 p3 ha hs (fun z => nomatch z) ⟨_, upd_same, KR.put h2 kk j1⟩⟩
        · exact p3.elim
      · exact p3.elim
    · exact p3.elim
  · exact p3.elim
/-! ### displays -/
def mPairs : List (ME × ME) → En → Sto → EO (List (U × U))
  | [], _, st => .ok [] st
  | (a, b) :: r, env, st => (a env st).bind fun u st => (b env st).bind fun w st => (mPairs r env st).bind fun ps st => .ok ((u, w) :: ps) st
def keysU : List (U × U) → Option (List (Key × U))
  | [] => some []
  | (u, w) :: r => match keyOf u, keysU r with
    | some k, some ks => some ((k, w) :: ks)
    | _, _ => none
def mergeU (kus more : List (Key × U)) : List (Key × U) := more.foldl (fun acc kv => putU acc kv.1 kv.2) kus
def mDict (l : List (ME × ME)) : ME := fun env st => (mPairs l env (st ++ [.dK []])).bind fun ps st' => match keysU ps, st'[st.length]? with
  | some ks, some (.dK []) => if ks.length ≤ 15 then .ok (.r st.length) (st'.set st.length (.dK (mergeU [] ks))) else .bad
  | _, _ => .bad
abbrev PRs (K : PySem.W.Frag) (F : Hp) (ρ : List Addr) : List (V × V) → List (U × U) → Prop := Paired fun p q => IR K F ρ p.1 q.1 ∧ IR K F ρ p.2 q.2
theorem pairs_go {K : PySem.W.Frag} : ∀ {l : List (ME × ME)} {F : Hp} {ρ : List Addr} {st : Sto} {env : En} {σ : L2.St} {H : Hp} {Q : List (V × V) → Hp → Prop}, Go K F ρ st env σ H →
    Post K W F ρ σ H (PRs K) Q (mPairs l env st) → tPairs (l.map fun q => (tE K W q.1, tE K W q.2)) σ H Q
  | [], _, _, _, _, _, _, _, g, p => p.ok g.1 .nil
  | (a, b) :: r, F, ρ, st, env, σ, H, Q, ⟨R, E⟩, p => by
    refine ⟨F, ρ, st, env, ⟨R, E⟩, Post.bind p fun u st1 x F1 ρ1 H1 _ ev R1 i1 p1 => ?_⟩
    refine ⟨F1, ρ1, st1, env, ⟨R1, E.mono ev.fr ev.pre⟩, Post.bind p1 fun w st2 y F2 ρ2 H2 _ ev2 R2 i2 p2 => ?_⟩
    refine pairs_go ⟨R2, (E.mono ev.fr ev.pre).mono ev2.fr ev2.pre⟩ (Post.bind p2 fun ps st3 vs F3 ρ3 H3 _ ev3 R3 i3 p3 => ?_)
    exact p3.ok R3 (.cons ⟨(i1.mono ev2.fr ev2.pre).mono ev3.fr ev3.pre, i2.mono ev3.fr ev3.pre⟩ i3)
theorem keysU_ok {K : PySem.W.Frag} {F : Hp} {ρ : List Addr} : ∀ {vs : List (V × V)} {ps : List (U × U)} {ks : List (Key × U)}, PRs K F ρ vs ps → keysU ps = some ks → ∃ kvs, vs = kvs.map (fun kv => (kV kv.1, kv.2)) ∧ KR K F ρ kvs ks
  | _, _, _, .nil, h => by cases h; exact ⟨[], rfl, .nil⟩
  | _, _, ks, .cons (a := p) (b := q) (l₂ := l2) a b, h => by
    obtain ⟨u, w⟩ := q
    unfold keysU at h
    split at h
    · rename_i k ks' e1 e2
      cases h
      obtain ⟨kvs, ev, r⟩ := keysU_ok b e2
      subst ev
      have ex := keyOf_ok a.1 e1
      refine ⟨(k, p.2) :: kvs, ?_, .cons ⟨rfl, a.2⟩ r⟩
      rw [List.map_cons, ← ex]
    · cases h
theorem kr_merge {K : PySem.W.Frag} {F : Hp} {ρ : List Addr} : ∀ {more : List (Key × V)} {mu : List (Key × U)} {kvs : List (Key × V)} {kus : List (Key × U)}, KR K F ρ more mu → KR K F ρ kvs kus → KR K F ρ (mergeK kvs more) (mergeU kus mu)
  | _, _, _, _, .nil, r => r
  | _, _, kvs, kus, .cons (a := p) (b := q) a b, r => by
    have e : KR K F ρ (putK kvs p.1 p.2) (putU kus q.1 q.2) := by rw [a.1]; exact KR.put r q.1 a.2
    have z := kr_merge b e
    exact z
theorem de_dict {keys : List (Option Expr)} {values : List Expr} {pos : Pos} {l : List (ME × ME)} (h : PPs X pos keys values (l.map fun q => (tE X.K W q.1, tE X.K W q.2))) (hall : keys.all (·.isSome) = true := by rfl) (hl : keys.length = values.length := by rfl) (h0 : keys ≠ [] := by intro z; cases z)
    (h15 : keys.length ≤ 15 := by decide) : DE X W (.Dict keys values pos) (mDict l) := by
  refine PE.weak (pe_disp h hall hl h0 h15) ?_
  rintro σ H Q ⟨F, ρ, st, env, ⟨R, E⟩, p⟩
  intro a ha
  have ev0 := Evo.alloc (o := .dK []) R ha
  have R0 : Rel X.K F (ρ ++ [a]) (st ++ [.dK []]) (upd H a (.dK [])) := R.alloc ha ⟨[], upd_same, .nil⟩
  have E0 := E.mono ev0.fr ev0.pre
  have hp : (ρ ++ [a])[st.length]? = some a := by
    rw [← R.len, List.getElem?_append_right (Nat.le_refl _)]; simp
  refine pairs_go ⟨R0, E0⟩ (Post.bind (Post.step ev0 p) fun ps st1 vs F1 ρ1 H1 _ ev R1 i1 p1 => ?_)
  split at p1
  · rename_i ks e1 e2
    split at p1
    · rename_i hz
      have ha1 : ρ1[st.length]? = some a := by
        obtain ⟨l', rfl⟩ := ev.pre
        rw [List.getElem?_append_left (by simp [R.len])]; exact hp
      obtain ⟨kvs0, h1, h2⟩ := R1.ob _ _ _ ha1 e2
      cases h2
      obtain ⟨kvs, ek, r⟩ := keysU_ok i1 e1
      exact ⟨h1, kvs, ek, by rw [KR.length r]; exact hz, put_ok R1 p1 ha1 e2 (fun z => nomatch z) ⟨_, upd_same, kr_merge r .nil⟩ (.r ha1)⟩
    · exact p1.elim
  · exact p1.elim
/-- {} -/
def mNewK : ME := fun _ st => .ok (.r st.length) (st ++ [.dK []])
def mNewT : ME := fun _ st => .ok (.r st.length) (st ++ [.dT []])
theorem de_newK {pos : Pos} : DE X W (.Dict [] [] pos) mNewK := by
  refine PE.weak pe_dnewK ?_
  rintro σ H Q ⟨F, ρ, st, env, ⟨R, E⟩, p⟩
  intro a ha
  refine p _ F (ρ ++ [a]) _ (Evo.alloc R ha) (R.alloc ha ⟨[], upd_same, .nil⟩) (.r ?_)
  rw [← R.len, List.getElem?_append_right (Nat.le_refl _)]; simp
theorem de_newT {pos : Pos} : DE X W (.Dict [] [] pos) mNewT := by
  refine PE.weak pe_dnewT ?_
  rintro σ H Q ⟨F, ρ, st, env, ⟨R, E⟩, p⟩
  intro a ha
  refine p _ F (ρ ++ [a]) _ (Evo.alloc R ha) (R.alloc ha ⟨[], upd_same, .nil⟩) (.r ?_)
  rw [← R.len, List.getElem?_append_right (Nat.le_refl _)]; simp
/-! ### methods of lists -/
def DM (K : PySem.W.Frag) (r : V → List V → Hp → VK → Prop) (f : U → List U → Sto → EO U) : Prop := ∀ {W : WX} {F : Hp} {ρ : List Addr} {st : Sto} {σ : L2.St} {H : Hp} {Q : VK} {x : V} {u : U} {vs : List V} {us : List U},
  Rel K F ρ st H → IR K F ρ x u → IRs K F ρ vs us → Post K W F ρ σ H (IR K) Q (f u us st) → r x vs H Q
def isStL (u : U) (st : Sto) : Bool := match u with
  | .r n => match st[n]? with
    | some (.lst _) => true
    | _ => false
  | .d (.list _) => true
  | _ => false
theorem isStL_ty {K : PySem.W.Frag} {F : Hp} {ρ : List Addr} {st : Sto} {H : Hp} {x : V} {u : U} (R : Rel K F ρ st H) (i : IR K F ρ x u) (h : isStL u st = true) : tyV K "list" x H := by
  unfold isStL at h
  split at h
  · obtain ⟨a, rfl, ha⟩ := i.r_inv
    split at h
    · rename_i xs hs
      obtain ⟨vs, h1, _⟩ := R.ob _ _ _ ha hs
      exact .inl ⟨rfl, vs, .of h1⟩
    · cases h
  · obtain ⟨a, vs, rfl, h1, _⟩ := i.lst_inv
    exact .inl ⟨rfl, vs, .of (R.sub _ _ h1)⟩
  · cases h
def mMethL (f : U → List U → Sto → EO U) (o : ME) (a : MA) : ME := fun env st => (o env st).bind fun u st => if isStL u st then (a env st).bind fun us st => f u us st else .bad
theorem de_methL {o e : Expr} {es : List Expr} {name : Str} {id : String} {apos cpos : Pos} {r : V → List V → Hp → VK → Prop} {f : U → List U → Sto → EO U} {mo : ME} {m : MA} (slot : Slot "list" name id) (hty : typeOf (.builtin id) = pure (.type "method_descriptor")) (hm : MtR X id r) (hr : DM X.K r f)
    (ho : DE X W o mo) (ha : DA X W (e :: es) m)
    (hbase : attributeBase o name X.env (eval o X.env) = eval o X.env := by rfl)
    (hfew : ((backTo cpos (starEach (e :: es) X.env)).all (fun x => !x.1) && (backToKw cpos (keywordEach [] X.env)).all (fun x => x.1.isSome)
      && decide ((e :: es).length + ([] : List Keyword).length + (if ([] : List Keyword).isEmpty then 0 else 1) < 30)) = true := by rfl)
    (hline : (apos.endLine == cpos.line) = true := by rfl) (hs : starEach (e :: es) X.env = (false, eval e X.env) :: starEach es X.env := by rfl) (hplain : (backTo cpos (starEach es X.env)).any (·.1) = false := by rfl) :
    DE X W (.Call (.Attribute o name apos) (e :: es) [] cpos) (mMethL f mo m) := by
  refine PE.weak (pe_bm PySem.F.plainAttrs_list slot hty hm ho ha hbase hfew hline hs hplain) ?_
  rintro σ H Q ⟨F, ρ, st, env, ⟨R, E⟩, p⟩
  refine ⟨F, ρ, st, env, ⟨R, E⟩, Post.bind p fun u st1 x F1 ρ1 H1 _ ev R1 i1 p1 => ?_⟩
  split at p1
  · rename_i hl
    refine ⟨isStL_ty R1 i1 hl, F1, ρ1, st1, env, ⟨R1, E.mono ev.fr ev.pre⟩, Post.bind p1 fun us st2 vs F2 ρ2 H2 _ ev2 R2 i2 p2 => ?_⟩
    exact hr R2 (i1.mono ev2.fr ev2.pre) i2 p2
  · exact p1.elim
theorem de_methL0 {o : Expr} {name : Str} {id : String} {apos cpos : Pos} {r : V → List V → Hp → VK → Prop} {f : U → List U → Sto → EO U} {mo : ME} (slot : Slot "list" name id) (hty : typeOf (.builtin id) = pure (.type "method_descriptor")) (hm : MtR X id r) (hr : DM X.K r f)
    (ho : DE X W o mo) (hbase : attributeBase o name X.env (eval o X.env) = eval o X.env := by rfl) (hline : (apos.endLine == cpos.line) = true := by rfl) :
    DE X W (.Call (.Attribute o name apos) [] [] cpos) (mMethL f mo mNil) := by
  refine PE.weak (pe_bm0 PySem.F.plainAttrs_list slot hty hm ho hbase hline) ?_
  rintro σ H Q ⟨F, ρ, st, env, ⟨R, E⟩, p⟩
  refine ⟨F, ρ, st, env, ⟨R, E⟩, Post.bind p fun u st1 x F1 ρ1 H1 _ ev R1 i1 p1 => ?_⟩
  split at p1
  · rename_i hl
    exact ⟨isStL_ty R1 i1 hl, hr R1 i1 .nil p1⟩
  · exact p1.elim
def fAppend : U → List U → Sto → EO U := fun u us st => match u, us with
  | .r n, [w] => match st[n]? with
    | some (.lst xs) => if xs.length < 10000000 then .ok (.d .none) (st.set n (.lst (xs ++ [w]))) else .bad
    | _ => .bad
  | _, _ => .bad
theorem dm_append {K : PySem.W.Frag} : DM K rAppend fAppend := by
  intro W F ρ st σ H Q x u vs us R i is p
  unfold fAppend at p
  split at p
  · obtain ⟨a, rfl, ha⟩ := i.r_inv
    obtain ⟨v, rfl, iv⟩ := is.one_inv
    split at p
    · rename_i xs hs
      split at p
      · rename_i hz
        obtain ⟨ws, h1, h2⟩ := R.ob _ _ _ ha hs
        exact ⟨a, ws, v, rfl, rfl, h1, line10' (by rw [IRs.length h2]; exact hz), put_ok R p ha hs (fun z => nomatch z) ⟨_, upd_same, IRs.append h2 (.cons iv .nil)⟩ (.d .non)⟩
      · exact p.elim
    · exact p.elim
  · exact p.elim
theorem de_append {o e : Expr} {apos cpos : Pos} {mo m : ME} (ho : DE X W o mo) (he : DE X W e m) (hbase : attributeBase o "append" X.env (eval o X.env) = eval o X.env := by rfl)
    (hfew : ((backTo cpos (starEach [e] X.env)).all (fun x => !x.1) && (backToKw cpos (keywordEach [] X.env)).all (fun x => x.1.isSome)
      && decide ([e].length + ([] : List Keyword).length + (if ([] : List Keyword).isEmpty then 0 else 1) < 30)) = true := by rfl)
    (hline : (apos.endLine == cpos.line) = true := by rfl) (hs : starEach [e] X.env = (false, eval e X.env) :: starEach [] X.env := by rfl) (hplain : (backTo cpos (starEach [] X.env)).any (·.1) = false := by rfl) :
    DE X W (.Call (.Attribute o "append" apos) [e] [] cpos) (mMethL fAppend mo (mCons m mNil)) :=
  de_methL PySem.F.slot_list_append PySem.F.type_list_append mt_append dm_append ho (da_cons he da_nil hs) hbase hfew hline hs hplain
def fPop : U → List U → Sto → EO U := fun u us st => match u, us with
  | .r n, [] => match st[n]? with
    | some (.lst xs) => match xs[xs.length - 1]? with
      | some y => .ok y (st.set n (.lst xs.dropLast))
      | none => .bad
    | _ => .bad
  | _, _ => .bad
theorem IRs.dropLast {K : PySem.W.Frag} {F : Hp} {ρ : List Addr} {vs : List V} {us : List U} (r : IRs K F ρ vs us) : IRs K F ρ vs.dropLast us.dropLast := by
  rw [List.dropLast_eq_take, List.dropLast_eq_take, IRs.length r]
  exact IRs.take _ r
theorem dm_pop {K : PySem.W.Frag} : DM K rPop fPop := by
  intro W F ρ st σ H Q x u vs us R i is p
  unfold fPop at p
  split at p
  · obtain ⟨a, rfl, ha⟩ := i.r_inv
    cases is
    split at p
    · rename_i xs hs
      split at p
      · rename_i y hy
        obtain ⟨ws, h1, h2⟩ := R.ob _ _ _ ha hs
        obtain ⟨v, hv, iv⟩ := IRs.get h2 hy
        exact ⟨a, ws, v, rfl, rfl, h1, by rw [IRs.length h2]; exact hv, put_ok R p ha hs (fun z => nomatch z) ⟨_, upd_same, IRs.dropLast h2⟩ iv⟩
      · exact p.elim
    · exact p.elim
  · exact p.elim
theorem de_pop {o : Expr} {apos cpos : Pos} {mo : ME} (ho : DE X W o mo) (hbase : attributeBase o "pop" X.env (eval o X.env) = eval o X.env := by rfl) (hline : (apos.endLine == cpos.line) = true := by rfl) :
    DE X W (.Call (.Attribute o "pop" apos) [] [] cpos) (mMethL fPop mo mNil) :=
  de_methL0 PySem.F.slot_list_pop PySem.F.type_list_pop mt_pop dm_pop ho hbase hline
def fExtend : U → List U → Sto → EO U := fun u us st => match u, us with
  | .r n, [w] => match st[n]?, w with
    | some (.lst xs), .d (.list ys) => if xs.length + ys.length ≤ 10000000 then .ok (.d .none) (st.set n (.lst (xs ++ ys.map .d))) else .bad
    | some (.lst xs), .r m => match st[m]? with
      | some (.lst ys) => if xs.length + ys.length ≤ 10000000 then .ok (.d .none) (st.set n (.lst (xs ++ ys))) else .bad
      | _ => .bad
    | _, _ => .bad
  | _, _ => .bad
theorem dm_extend {K : PySem.W.Frag} : DM K rExtend fExtend := by
  intro W F ρ st σ H Q x u vs us R i is p
  unfold fExtend at p
  split at p
  · obtain ⟨a, rfl, ha⟩ := i.r_inv
    obtain ⟨v, rfl, iv⟩ := is.one_inv
    split at p
    · rename_i xs ys hs
      split at p
      · rename_i hz
        obtain ⟨ws, h1, h2⟩ := R.ob _ _ _ ha hs
        obtain ⟨b, zs, rfl, h3, h4⟩ := iv.lst_inv
        exact ⟨a, b, ws, zs, rfl, rfl, h1, R.sub _ _ h3, line10 (by rw [IRs.length h2, h4.length]; exact hz), put_ok R p ha hs (fun z => nomatch z) ⟨_, upd_same, IRs.append h2 h4.irs⟩ (.d .non)⟩
      · exact p.elim
    · rename_i xs m hs
      obtain ⟨b, rfl, hb⟩ := iv.r_inv
      split at p
      · rename_i ys hs2
        split at p
        · rename_i hz
          obtain ⟨ws, h1, h2⟩ := R.ob _ _ _ ha hs
          obtain ⟨zs, h3, h4⟩ := R.ob _ _ _ hb hs2
          exact ⟨a, b, ws, zs, rfl, rfl, h1, h3, line10 (by rw [IRs.length h2, IRs.length h4]; exact hz), put_ok R p ha hs (fun z => nomatch z) ⟨_, upd_same, IRs.append h2 h4⟩ (.d .non)⟩
        · exact p.elim
      · exact p.elim
    · exact p.elim
  · exact p.elim
theorem de_extend {o e : Expr} {apos cpos : Pos} {mo m : ME} (ho : DE X W o mo) (he : DE X W e m) (hbase : attributeBase o "extend" X.env (eval o X.env) = eval o X.env := by rfl)
    (hfew : ((backTo cpos (starEach [e] X.env)).all (fun x => !x.1) && (backToKw cpos (keywordEach [] X.env)).all (fun x => x.1.isSome)
      && decide ([e].length + ([] : List Keyword).length + (if ([] : List Keyword).isEmpty then 0 else 1) < 30)) = true := by rfl)
    (hline : (apos.endLine == cpos.line) = true := by rfl) (hs : starEach [e] X.env = (false, eval e X.env) :: starEach [] X.env := by rfl) (hplain : (backTo cpos (starEach [] X.env)).any (·.1) = false := by rfl) :
    DE X W (.Call (.Attribute o "extend" apos) [e] [] cpos) (mMethL fExtend mo (mCons m mNil)) :=
  de_methL PySem.F.slot_list_extend PySem.F.type_list_extend mt_extend dm_extend ho (da_cons he da_nil hs) hbase hfew hline hs hplain
/-! ### xs[::-1], xs a list -/
def fRevL (s : Bool) : U → Sto → EO U := fun u st => if isL u then match seqOf u st with
  | some us => mkL s us.reverse st
  | none => .bad
  else .bad
theorem IRs.reverse {K : PySem.W.Frag} {F : Hp} {ρ : List Addr} {vs : List V} {us : List U} (r : IRs K F ρ vs us) : IRs K F ρ vs.reverse us.reverse := by
  induction r with
  | nil => exact .nil
  | cons a _ ih => rw [List.reverse_cons, List.reverse_cons]; exact IRs.append ih (.cons a .nil)
def mRevL (s : Bool) (m : ME) : ME := fun env st => (m env st).bind (fRevL s)
theorem de_revL {e : Expr} {j : Nat} {p1 p2 p3 pos : Pos} {m : ME} (s : Bool) (he : DE X W e m) : DE X W (.Subscript e (.Slice none none (some (.UnaryOp .USub (.Constant (.int 1) j p1) p2)) p3) pos) (mRevL s m) := by
  refine PE.weak (pe_revL he) ?_
  rintro σ H Q ⟨F, ρ, st, env, ⟨R, E⟩, p⟩
  refine ⟨F, ρ, st, env, ⟨R, E⟩, Post.bind p fun u st1 x F1 ρ1 H1 _ ev R1 i1 p1 => ?_⟩
  unfold fRevL at p1
  split at p1
  · rename_i hl
    split at p1
    · rename_i us hu
      obtain ⟨a, vs, rfl, hs, r⟩ := seqOf_L R1 i1 hu (isL_nt hl)
      exact ⟨a, vs, rfl, hs, fun q hq => mkL_ok R1 (IRs.reverse r) p1 hq⟩
    · exact p1.elim
  · exact p1.elim
end
end Dd

set_option Elab.async false
set_option linter.all false
set_option maxRecDepth 100000
set_option maxHeartbeats 2000000
/-! repr, texts. -/
namespace Dd
open PySem PySem.Spec PyProof.Rows L2

section
variable {K : PySem.W.Frag} {P : Program} {w : World} {F H : Hp} {h : Heap}
def InF (F : Hp) (as : List Addr) : Prop := ∀ a ∈ as, ∃ o, F a = some o
theorem InF.append {as bs : List Addr} (x : InF F as) (y : InF F bs) : InF F (as ++ bs) := fun a m => (List.mem_append.mp m).elim (x a) (y a)
theorem key_reads {k : Key} {u : Value} (e : (mixKind P w).is k u = true) : Reads h u (kD k) [] := by
  rcases keyIs_shape e with ⟨i, t, rfl, rfl⟩ | ⟨x, t, rfl, rfl⟩
  · exact .int i t
  · exact .str x t
theorem keys_read (P : Program) (w : World) : ∀ {ks : List Key} {us : List Value}, Vals (ks.map kV) us → ReadsAll h us (ks.map kD) []
  | [], _, r => by cases r; exact .nil
  | k :: ks, _, r => by
    rw [List.map_cons] at r
    cases r with
    | cons a b =>
      have e : Reads h _ (kD k) [] := key_reads (P := P) (w := w) (kV_is a)
      exact ReadsAll.cons e (keys_read P w b)
mutual
theorem DR.reads (hok : HOk P w H h) (sub : Sub F H) : ∀ {v : V} {x : PyData} {u : Value}, DR K F v x → RelV v u → ∃ as, Reads h u x as ∧ InF F as
  | _, _, _, .non, r => by cases r; exact ⟨[], .none, fun _ z => by cases z⟩
  | _, _, _, .bl b, r => by cases r; exact ⟨[], .bool b, fun _ z => by cases z⟩
  | _, _, _, .int i, r => by obtain ⟨t, rfl⟩ := r; exact ⟨[], .int i t, fun _ z => by cases z⟩
  | _, _, _, .str i, r => by obtain ⟨t, rfl⟩ := r; exact ⟨[], .str i t, fun _ z => by cases z⟩
  | _, _, _, .lst (a := a) e d, r => by
    cases r
    obtain ⟨z, its, n, rv, ho⟩ := hok _ _ (sub _ _ e)
    obtain ⟨as, q, f⟩ := d.reads hok sub rv
    exact ⟨a :: as, .list ho rfl rfl q, fun b m => (List.mem_cons.mp m).elim (fun q => q ▸ ⟨_, e⟩) (f b)⟩
  | _, _, _, .tup (a := a) e d, r => by
    cases r
    obtain ⟨z, its, rv, o, ho, hc, n, hd⟩ := hok _ _ (sub _ _ e)
    obtain ⟨as, q, f⟩ := d.reads hok sub rv
    exact ⟨as, .tuple ho hc hd q, f⟩
  | _, _, _, .dK (a := a) e d, r => by
    cases r
    obtain ⟨z, hs, vs, kv, o, es, ep, ho, hx, hdat, _, hp, _⟩ := hok _ _ (sub _ _ e)
    obtain ⟨bs, q1, q2, f⟩ := d.reads hok sub kv hp
    exact ⟨a :: ([] ++ bs), .dict ho hx.1 hdat q1 q2, fun b m => (List.mem_cons.mp m).elim (fun q => q ▸ ⟨_, e⟩) (f b)⟩
  | _, _, _, .dT (a := a) e d, r => by
    cases r
    obtain ⟨z, hs, xs, kv, o, es, ep, ho, hx, hdat, hes, _⟩ := hok _ _ (sub _ _ e)
    obtain ⟨bs, q1, q2, f⟩ := d.reads hok sub kv
    refine ⟨a :: ([] ++ bs), .dict ho hx.1 hdat (by rw [hes]; exact q1) (by rw [hes]; exact q2), fun b m => (List.mem_cons.mp m).elim (fun q => q ▸ ⟨_, e⟩) (f b)⟩
theorem DRs.reads (hok : HOk P w H h) (sub : Sub F H) : ∀ {v : List V} {x : List PyData} {u : List Value}, DRs K F v x → Vals v u → ∃ as, ReadsAll h u x as ∧ InF F as
  | _, _, _, .nil, r => by cases r; exact ⟨[], .nil, fun _ z => by cases z⟩
  | _, _, _, .cons a b, r => by
    cases r with
    | cons r1 r2 =>
      obtain ⟨as, q1, f1⟩ := a.reads hok sub r1
      obtain ⟨bs, q2, f2⟩ := b.reads hok sub r2
      exact ⟨as ++ bs, .cons q1 q2, f1.append f2⟩
theorem DRk.reads (hok : HOk P w H h) (sub : Sub F H) : ∀ {v : List (Key × V)} {x : List (PyData × PyData)} {us : List (Key × Value)} {es : List DictEntry}, DRk K F v x → KV v us → Pairs (mixKind P w) es us →
    ∃ bs, ReadsAll h (es.map (·.key)) (x.map (·.1)) [] ∧ ReadsAll h (es.map (·.val)) (x.map (·.2)) bs ∧ InF F bs
  | _, _, _, _, .nil, r, p => by cases r; cases p; exact ⟨[], .nil, .nil, fun _ z => by cases z⟩
  | _, _, _, _, .cons (k := k) a b, r, p => by
    cases r with
    | cons r1 r2 =>
      cases p with
      | cons p1 p2 p3 =>
        obtain ⟨r1a, r1b⟩ := r1
        dsimp only at r1a r1b
        obtain ⟨as, q1, f1⟩ := a.reads hok sub r1b
        obtain ⟨bs, q2, q3, f2⟩ := b.reads hok sub r2 p3
        refine ⟨as ++ bs, ?_, ?_, f1.append f2⟩
        · rw [List.map_cons, List.map_cons]
          exact ReadsAll.cons (as := []) (key_reads (P := P) (w := w) (r1a ▸ p1)) q2
        · rw [List.map_cons, List.map_cons, p2]
          exact .cons q1 q3
theorem DRt.reads (hok : HOk P w H h) (sub : Sub F H) : ∀ {v : List (List Key × V)} {x : List (PyData × PyData)} {us : List (List Key × Addr × Value)}, DRt K F v x →
    Paired (fun (p : List Key × V) (q : List Key × Addr × Value) => p.1 = q.1 ∧ H q.2.1 = some (.tup (p.1.map kV)) ∧ RelV p.2 q.2.2) v us →
    ∃ bs, ReadsAll h ((us.map (entryOfKey (tupleKind (mixKind P w)))).map (·.key)) (x.map (·.1)) [] ∧ ReadsAll h ((us.map (entryOfKey (tupleKind (mixKind P w)))).map (·.val)) (x.map (·.2)) bs ∧ InF F bs
  | _, _, _, .nil, r => by cases r; exact ⟨[], .nil, .nil, fun _ z => by cases z⟩
  | _, _, _, .cons (ks := ks) a b, r => by
    cases r with
    | cons r1 r2 =>
      obtain ⟨r1a, r1b, r1c⟩ := r1
      dsimp only at r1a r1b r1c
      obtain ⟨as, q1, f1⟩ := a.reads hok sub r1c
      obtain ⟨bs, q2, q3, f2⟩ := b.reads hok sub r2
      obtain ⟨z, its, rv, o, ho, hc, n, hd⟩ := hok _ _ r1b
      refine ⟨as ++ bs, ?_, ?_, f1.append f2⟩
      · rw [List.map_cons, List.map_cons, List.map_cons]
        exact ReadsAll.cons (as := []) (.tuple ho hc hd (keys_read P w rv)) q2
      · rw [List.map_cons, List.map_cons, List.map_cons]
        exact .cons q1 q3
end
end
/-! ### repr -/
def okShow (x : PyData) : Bool := x.showable && decide (x.shown.length ≤ 10000000) && decide (x.depth ≤ 60)
def rRepr (K : PySem.W.Frag) : List V → Hp → VK → Prop := fun xs H Q => ∃ v x F, xs = [v] ∧ Sub F H ∧ DR K F v x ∧ okShow x = true ∧ Q (.str x.shown) H
section
variable {X : Cx} {W : WX} {k : Nat}
theorem call_repr_data (C : Ctx X W k) : CallR X (.builtin "repr") (rRepr X.K) := by
  intro pins s σ H xs us Q I r h
  obtain ⟨v, x, F, rfl, sub, d, ok, q⟩ := h
  obtain ⟨u, rfl, ru⟩ := Vals.one r
  unfold okShow at ok
  simp only [Bool.and_eq_true, decide_eq_true_eq] at ok
  obtain ⟨⟨o1, o2⟩, o3⟩ := ok
  obtain ⟨as, rd, f⟩ := d.reads I.hok sub ru
  have hsm : sysModules ∉ as := fun m => by
    obtain ⟨o, e⟩ := f _ m
    obtain ⟨ob, eb⟩ := C.sys
    have z := (I.bs _ _ eb).2
    rw [sub _ _ e] at z
    cases z
  have hu := C.hu
  have hz := line10 o2
  have fin : ∀ h' (t : Tok) tk, (∀ b o, s.heap.get? b = some o → h'.get? b = some o) → EP X pins σ Q (.str x.shown t) { s with heap := h', toks := tk } := fun h' t tk kp => ⟨.str _, H, I.kept (t' := tk) kp, ⟨t, rfl⟩, q⟩
  cases rd with
  | none => simp only [PyData.shown] at fin; exact PySem.P.repr_of_none (fin s.heap _ _ fun _ _ e => e)
  | bool b => simp only [PyData.shown] at fin; exact PySem.P.repr_of_bool (fin s.heap _ _ fun _ _ e => e)
  | int i t =>
    simp only [PyData.shown] at fin
    exact PySem.P.repr_of_int (by simpa [PyData.showable] using o1) (fin s.heap _ _ fun _ _ e => e)
  | str y t =>
    simp only [PyData.shown] at fin hz
    exact PySem.P.repr_of_str (fin s.heap _ _ fun _ _ e => e) hz
  | list h1 h2 h3 h4 => exact repr_of_reads' (.list h1 h2 h3 h4) o1 (fun _ => hsm) C.gd (by omega) (fun _ _ e => e) fin hz
  | tuple h1 h2 h3 h4 => exact repr_of_reads' (.tuple h1 h2 h3 h4) o1 (fun _ => hsm) C.gd (by omega) (fun _ _ e => e) fin hz
  | dict h1 h2 h3 h4 h5 => exact repr_of_reads' (.dict h1 h2 h3 h4 h5) o1 (fun _ => hsm) C.gd (by omega) (fun _ _ e => e) fin hz
def fRepr : List U → Sto → EO U
  | [u], st => match peek u st with
    | some x => if okShow x then .ok (.d (.str x.shown)) st else .bad
    | none => .bad
  | _, _ => .bad
theorem dc_repr {K : PySem.W.Frag} : DC K (rRepr K) fRepr := by
  intro W F ρ st σ H Q vs us R i p
  unfold fRepr at p
  split at p
  · split at p
    · rename_i u x hx
      split at p
      · rename_i ok
        obtain ⟨v, rfl, i1⟩ := i.one_inv
        exact ⟨v, x, H, rfl, Sub.refl H, peek_ok R i1 hx, ok, p.ok R (.d (.str _))⟩
      · exact p.elim
    · exact p.elim
  · exact p.elim
end
end Dd

set_option Elab.async false
set_option linter.all false
set_option maxRecDepth 100000
set_option maxHeartbeats 4000000
/-! t[::-1]; texts. -/
namespace Dd
open PySem PySem.Spec PyProof.Rows L2 HT

section
variable {prog : Program} {w : World} {A : Around} {E : Value → Shared → Prop} {s : Shared}
theorem places_rev (n : Nat) : Builtin.Slice.slicePlaces ((n : Int) - 1) (-1) (-1) = n := by
  unfold Builtin.Slice.slicePlaces
  have h1 : ¬ ((-1 : Int) > 0) := by omega
  simp only [h1, if_false]
  by_cases h : ((n : Int) - 1) > -1
  · simp only [h, if_true]
    have e : ((n : Int) - 1 - -1 - 1) / (- -1) = (n : Int) - 1 := by
      rw [show (- -1 : Int) = 1 by omega, Int.ediv_one]; omega
    rw [e]; omega
  · simp only [h, if_false]; omega
theorem applied_rev {sl : Addr} {n : Nat} {t : Tok} {Q : Int × Int × Nat → Shared → Prop} (hs : s.heap.IsSliceOf sl .none .none (.int (-1) t)) (h : Q ((n : Int) - 1, -1, n) s) :
    wpAny (model prog w) A (Builtin.Slice.sliceApplied (.ref sl) (pure (n : Int))) Q E s := by
  obtain ⟨os, hos, hcs, hds⟩ := id hs
  unfold Builtin.Slice.sliceApplied Builtin.Slice.sliceFields
  refine wpAny_bind (wpAny_bind (wpAny_field hos hds (x := .none) rfl (wpAny_bind (wpAny_field hos hds (x := .none) rfl (wpAny_bind (wpAny_field hos hds (x := .int (-1) t) rfl (wpAny_pure ?_)))))))
  refine wpAny_bind (slicePart_int ?_)
  show wpAny _ _ (if ((-1 : Int) == 0) = true then _ else _) _ _ s
  rw [if_neg (by decide)]
  refine wpAny_bind (slicePart_none (wpAny_bind (slicePart_none (wpAny_bind (wpAny_pure ?_)))))
  show wpAny _ _ (pure ((n : Int) - 1, (-1 : Int), Builtin.Slice.slicePlaces ((n : Int) - 1) (-1) (-1))) _ _ s
  rw [places_rev]
  exact wpAny_pure h
theorem pick_rev (xs : List Value) : ((List.range xs.length).filterMap fun (k : Nat) => xs.toArray[(((xs.length : Int) - 1) + (k : Int) * -1).toNat]?) = xs.reverse := by
  apply List.ext_getElem?
  intro i
  have e : ∀ (l : List Nat), (∀ k ∈ l, k < xs.length) → (l.filterMap fun (k : Nat) => xs.toArray[(((xs.length : Int) - 1) + (k : Int) * -1).toNat]?) = l.map fun k => (xs[xs.length - 1 - k]?).getD .none := by
    intro l
    induction l with
    | nil => intro _; rfl
    | cons k l ih =>
      intro h
      have hk := h k (by simp)
      have e1 : (((xs.length : Int) - 1) + (k : Int) * -1).toNat = xs.length - 1 - k := by omega
      have hl : xs.length - 1 - k < xs.length := by omega
      rw [List.filterMap_cons, e1, List.map_cons, ← ih fun q hq => h q (by simp [hq])]
      simp [List.getElem?_eq_getElem hl]
  rw [e _ fun k hk => by simpa using hk]
  by_cases hi : i < xs.length
  · have hl : xs.length - 1 - i < xs.length := by omega
    simp [hi, List.getElem?_reverse hi, List.getElem?_eq_getElem hl]
  · simp [hi]
theorem getItem_tuple_rev {t sl : Addr} {its : List Value} {tk : Tok} {Q : Value → Shared → Prop} (ht : IsTup s.heap t its.toArray) (hs : s.heap.IsSliceOf sl .none .none (.int (-1) tk))
    (h : Q (.ref s.heap.objs.size) { s with heap := s.heap.push { cls := .type "tuple", data := .seq its.reverse.toArray } }) (hsz : its.length ≤ sizeLine) : wpAny (model prog w) A (getItem (.ref t) (.ref sl)) Q E s := by
  obtain ⟨os, hos, hcs, hds⟩ := id hs
  have hTs : s.TypeIs (.ref sl) "slice" := ⟨os, hos, hcs⟩
  have htake : sizeOk (.seq its.reverse.toArray) := by
    show its.reverse.toArray.size ≤ sizeLine
    rw [List.size_toArray, List.length_reverse]; exact hsz
  unfold getItem
  try with_reducible refine wpAny_holding ?_
  first | refine wpAny_bind (wpAny_pure ?_) | skip
  refine wpAny_bind (wpAny_sequenceKey ht.typeIs (by decide) ?_)
  refine wpAny_bind (wpAny_callSpecial?_slot (name := Str.ofString "__getitem__") ht.typeIs PyProof.Rows.slot_tuple_getitem
    (wpAny_call_entry PyProof.Rows.slot_tuple_getitem ht.typeIs entry_tuple_getitem ?_ (args_tuple_getitem _ _)))
  show wpAny _ _ (Builtin.Tuple.tupleItemsOf (.ref t) >>= _) _ _ s
  refine wpAny_bind (tupleItemsOf_ ht ?_)
  refine wpAny_bind (wpAny_typeOf hTs ?_)
  rw [if_pos (by decide)]
  refine wpAny_bind (applied_rev hs ?_)
  show wpAny _ _ (if (((its.toArray.size : Int) - 1) == 0 && (-1 : Int) == 1 && its.toArray.size == its.toArray.size) = true then _ else _) _ _ s
  rw [if_neg (by rw [show ((-1 : Int) == 1) = false by decide, Bool.and_false, Bool.false_and]; exact Bool.false_ne_true)]
  have ep : ((List.range its.toArray.size).filterMap fun (k : Nat) => its.toArray[(((its.toArray.size : Int) - 1) + (k : Int) * -1).toNat]?) = its.reverse := by
    rw [List.size_toArray]; exact pick_rev its
  rw [ep]
  first
    | exact wpAny_bind (m := Builtin.Tuple.tupleExact _) (wpAny_newObj_type (wpAny_pure ⟨_, rfl, wpAny_pure h⟩) htake)
    | exact wpAny_bind (m := Builtin.Tuple.tupleExact _) (wpAny_newObj_type (wpAny_bind (wpAny_pure (wpAny_pure ⟨_, rfl, wpAny_pure h⟩))) htake)
    | exact wpAny_bind (wpAny_bind (m := Builtin.Tuple.tupleExact _) (wpAny_newObj_type (wpAny_pure (wpAny_pure ⟨_, rfl, wpAny_pure h⟩)) htake))
    | exact wpAny_bind (wpAny_bind (m := Builtin.Tuple.tupleExact _) (wpAny_newObj_type (wpAny_pure ⟨_, rfl, wpAny_pure h⟩) htake))
end
section
variable {X : Cx} {W : WX} {k : Nat}
/-- t[::-1], t a tuple or a list -/
def tRevA (K : PySem.W.Frag) (te : TE) : TE := fun σ H Q => te σ H fun x H1 => ∃ a xs, x = .ref a ∧ ((SqL K H1 a xs ∧ ∀ p, H1 p = none → Q (.ref p) (upd H1 p (.lst xs.reverse))) ∨ (SqT K H1 a xs ∧ ∀ p, H1 p = none → Q (.ref p) (upd H1 p (.tup xs.reverse))))
theorem pe_revA {e : Expr} {te : TE} {j : Nat} {p1 p2 p3 pos : Pos} (he : PE X e te) : PE X (.Subscript e (.Slice none none (some (.UnaryOp .USub (.Constant (.int 1) j p1) p2)) p3) pos) (tRevA X.K te) := by
  refine ⟨fun pins s σ H Q I h => ?_⟩
  refine Subscript_ (thn (he.run pins s σ H _ I h) fun v s1 ⟨x, H1, I1, r1, q1⟩ => ?_)
  obtain ⟨a, xs, ex, hx⟩ := q1
  subst ex
  cases r1
  have hst : PO X (some (.UnaryOp .USub (.Constant (.int 1) j p1) p2)) (tPart (tUn (rU fun i => .int (-i)) (tC (.int 1)))) := po_some (pe_un un_neg pe_int)
  refine wpAny_Slice (thn (po_none.run pins s1 σ H1 (fun o H2 => o = none ∧ H2 = H1) I1 ⟨rfl, rfl⟩) fun vl s2 ⟨l, H2, I2, pl, el, e2⟩ => ?_)
  subst el e2
  refine thn (po_none.run pins s2 σ H2 (fun o H3 => o = none ∧ H3 = H2) I2 ⟨rfl, rfl⟩) fun vu s3 ⟨u, H3, I3, pu, eu, e3⟩ => ?_
  subst eu e3
  refine thn (hst.run pins s3 σ H3 (fun o H4 => o = some (-1) ∧ H4 = H3) I3 ⟨1, rfl, -1, rfl, rfl, rfl⟩) fun vs s4 ⟨o, H4, I4, ps, eo, e4⟩ => ?_
  subst eo e4
  have I5 : Inv X pins σ H4 { s4 with heap := s4.heap.push { cls := .type "slice", data := .fields #[vl, vu, vs] } } := I4.kept (t' := s4.toks) fun b ob q => Heap.get?_push_of_some _ q
  show wpAny (model X.prog X.w) X.A (subscriptTail e (.Slice none none (some (.UnaryOp .USub (.Constant (.int 1) j p1) p2)) p3) (.ref a) (.ref s4.heap.objs.size)) (EP X pins σ Q) X.xe { s4 with heap := s4.heap.push { cls := .type "slice", data := .fields #[vl, vu, vs] } }
  rcases hx with ⟨hx, q⟩ | ⟨hx, q⟩
  · obtain ⟨its, r, ht, hz⟩ := I5.list hx
    have hlen := r.length
    refine tail_any (ops := [.ref a, .ref s4.heap.objs.size]) ht.isList.typeIs (PySem.slot_list_getitem.lookup) ?_ (by with_unfolding_all rfl)
    refine wpAny_getItem_list_slice ht.isList (Heap.IsSliceOf.new _ vl vu vs) pl pu ps (by decide) ?_ (by rw [List.size_toArray]; omega)
    rw [PySem.W.krv_pick]
    refine ⟨.ref _, _, I5.laid (t' := s4.toks) (o := .lst xs.reverse) (fun b ob q => Heap.get?_push_of_some _ q) (Nat.le_refl _) ?_, rfl, q _ (I5.hok.fresh (Nat.le_refl _))⟩
    exact ⟨by rw [List.length_reverse]; omega, its.reverse, 0, r.reverse, Heap.get?_push_size _ rfl⟩
  · obtain ⟨its, r, ht, hz⟩ := I5.tuple hx
    have hlen := r.length
    cases pl
    cases pu
    cases ps
    rename_i tk
    refine tail_any (ops := [.ref a, .ref s4.heap.objs.size]) ht.typeIs (PyProof.Rows.slot_tuple_getitem.lookup) ?_ (by with_unfolding_all rfl)
    refine getItem_tuple_rev ht (Heap.IsSliceOf.new _ _ _ _) ?_ (by omega)
    refine ⟨.ref _, _, I5.laid (t' := s4.toks) (o := .tup xs.reverse) (fun b ob q => Heap.get?_push_of_some _ q) (Nat.le_refl _) ?_, rfl, q _ (I5.hok.fresh (Nat.le_refl _))⟩
    exact ⟨by rw [List.length_reverse]; omega, its.reverse, r.reverse, IsTup.new _ _⟩
theorem DRs.reverse {K : PySem.W.Frag} {F : Hp} {vs : List V} {us : List PyData} (r : DRs K F vs us) : DRs K F vs.reverse us.reverse := r.rev
def fRevA (s : Bool) : U → Sto → EO U
  | .d (.tuple xs), st => .ok (.d (.tuple xs.reverse)) st
  | u, st => fRevL s u st
def mRevA (s : Bool) (m : ME) : ME := fun env st => (m env st).bind (fRevA s)
theorem de_revA {e : Expr} {j : Nat} {p1 p2 p3 pos : Pos} {m : ME} (s : Bool) (he : DE X W e m) : DE X W (.Subscript e (.Slice none none (some (.UnaryOp .USub (.Constant (.int 1) j p1) p2)) p3) pos) (mRevA s m) := by
  refine PE.weak (pe_revA he) ?_
  rintro σ H Q ⟨F, ρ, st, env, ⟨R, E⟩, p⟩
  refine ⟨F, ρ, st, env, ⟨R, E⟩, Post.bind p fun u st1 x F1 ρ1 H1 _ ev R1 i1 p1 => ?_⟩
  unfold fRevA at p1
  split at p1
  · obtain ⟨a, vs, rfl, h1, h2⟩ := i1.tup_inv
    exact ⟨a, vs, rfl, .inr ⟨R1.sub.sqT h1, fun q hq => mkT_ok R1 h2.rev p1 hq⟩⟩
  · unfold fRevL at p1
    split at p1
    · rename_i hl
      split at p1
      · rename_i us hu
        obtain ⟨a, vs, rfl, hs, r⟩ := seqOf_L R1 i1 hu (isL_nt hl)
        exact ⟨a, vs, rfl, .inl ⟨hs, fun q hq => mkL_ok R1 (IRs.reverse r) p1 hq⟩⟩
      · exact p1.elim
    · exact p1.elim
/-! ### slices, texts too -/
def dSlA (s : Bool) (u : U) (lo hi : Option Int) (st : Sto) : EO U := match u with
  | .d (.str x) => if x.length ≤ 10000000 then .ok (.d (.str (cutS x lo hi))) st else .bad
  | _ => dSl s u lo hi st
def mSlA (s : Bool) (m : ME) (l h : MO) : ME := fun env st => (m env st).bind fun u st => (l env st).bind fun lo st => (h env st).bind fun hi st => dSlA s u lo hi st
theorem sl_go {K : PySem.W.Frag} {F : Hp} {ρ : List Addr} {st : Sto} {σ : L2.St} {H : Hp} {Q : VK} {s : Bool} {x : V} {u : U} {lo hi : Option Int} (R : Rel K F ρ st H) (j : IR K F ρ x u) (p : Post K W F ρ σ H (IR K) Q (dSl s u lo hi st)) : rSlB K x lo hi H Q := by
  have lst : ∀ us, seqOf u st = some us → ((∀ xs, u ≠ .d (.tuple xs)) ∧ ∀ xs, u ≠ .k xs) → Post K W F ρ σ H (IR K) Q (mkL s (cutL us lo hi) st) → rSlB K x lo hi H Q := fun us hu nt q => by
    obtain ⟨a, vs, rfl, hs, r⟩ := seqOf_L R j hu nt
    exact .inr ⟨a, vs, rfl, hs, fun b hb => mkL_ok R (IRs.cut r _ _) q hb⟩
  unfold dSl at p
  split at p
  · obtain ⟨a, vs, rfl, h1, h2⟩ := j.tup_inv'
    refine .inl ⟨a, vs, rfl, .of (R.sub _ _ h1), fun hw => ?_, fun _ q hq => mkT_ok R (h2.cut _ _) p hq⟩
    refine p.ok R (.d (.tup h1 ?_))
    have := h2.cut lo hi
    rw [cutV_whole hw] at this
    exact this
  · split at p
    · rename_i us hu; exact lst us hu ⟨fun _ z => (nomatch z), fun _ z => (nomatch z)⟩ p
    · exact p.elim
  · split at p
    · rename_i us hu; exact lst us hu ⟨fun _ z => (nomatch z), fun _ z => (nomatch z)⟩ p
    · exact p.elim
  · split at p
    · rename_i us hu; exact lst us hu ⟨fun _ z => (nomatch z), fun _ z => (nomatch z)⟩ p
    · exact p.elim
  · exact p.elim
theorem de_slA {e : Expr} {lo hi : Option Expr} {p2 pos : Pos} {m : ME} {l h : MO} (s : Bool) (he : DE X W e m) (hl : DO X W lo l) (hh : DO X W hi h) : DE X W (.Subscript e (.Slice lo hi none p2) pos) (mSlA s m l h) := by
  refine PE.weak (pe_slice (r := fun x lo hi H Q => rSlB X.K x lo hi H Q ∨ rSlS x lo hi H Q) (SlR.or (SlR.or sl_tupA sl_list) sl_str) he hl hh) ?_
  rintro σ H Q ⟨F, ρ, st, env, ⟨R, E⟩, p⟩
  refine ⟨F, ρ, st, env, ⟨R, E⟩, Post.bind p fun u st1 x F1 ρ1 H1 _ ev R1 i1 p1 => ?_⟩
  refine ⟨F1, ρ1, st1, env, ⟨R1, E.mono ev.fr ev.pre⟩, Post.bind p1 fun lo st2 lo' F2 ρ2 H2 _ ev2 R2 i2 p2 => ?_⟩
  refine ⟨F2, ρ2, st2, env, ⟨R2, (E.mono ev.fr ev.pre).mono ev2.fr ev2.pre⟩, Post.bind p2 fun hi st3 hi' F3 ρ3 H3 _ ev3 R3 i3 p3 => ?_⟩
  obtain rfl : lo' = lo := i2
  obtain rfl : hi' = hi := i3
  have j := (i1.mono ev2.fr ev2.pre).mono ev3.fr ev3.pre
  unfold dSlA at p3
  split at p3
  · split at p3
    · rename_i hz
      exact .inr ⟨_, j.str_inv, line10 hz, p3.ok R3 (.d (.str _))⟩
    · exact p3.elim
  · exact .inl (sl_go R3 j p3)
/-! ### str(x), x.upper() -/
def fStr : List U → Sto → EO U
  | [.d (.int i)], st => if i.natAbs.log2 < 1920 then .ok (.d (.str (toString i))) st else .bad
  | [.d (.str x)], st => .ok (.d (.str x)) st
  | _, _ => .bad
def rStr : List V → Hp → VK → Prop := fun xs H Q => (∃ i : Int, xs = [.int i] ∧ i.natAbs.log2 < 1920 ∧ Q (.str (toString i)) H) ∨ ∃ a, xs = [.str a] ∧ Q (.str a) H
theorem call_strA : CallR X (.type "str") rStr := by
  intro pins s σ H xs us Q I r h
  rcases h with h | h
  · exact call_str_int pins s σ H xs us Q I r h
  · obtain ⟨a, rfl, q⟩ := h
    obtain ⟨u, rfl, t, rfl⟩ := vals1 r
    exact PySem.P.str_of_str ⟨.str a, H, I, ⟨t, rfl⟩, q⟩
theorem dc_str {K : PySem.W.Frag} : DC K rStr fStr := by
  intro W F ρ st σ H Q vs us R i p
  unfold fStr at p
  split at p
  · split at p
    · rename_i c
      obtain ⟨v, rfl, i1⟩ := i.one_inv
      exact .inl ⟨_, by rw [i1.int_inv], c, p.ok R (.d (.str _))⟩
    · exact p.elim
  · obtain ⟨v, rfl, i1⟩ := i.one_inv
    exact .inr ⟨_, by rw [i1.str_inv], p.ok R (.d (.str _))⟩
  · exact p.elim
def mUpper (m : ME) : ME := fun env st => (m env st).bind fun u st => match u with
  | .d (.str x) => if x.length ≤ 5592405 then .ok (.d (.str (Txt.upper x))) st else .bad
  | _ => .bad
theorem de_upper {o : Expr} {apos pos : Pos} {m : ME} (ho : DE X W o m) (hbase : attributeBase o "upper" X.env (eval o X.env) = eval o X.env := by rfl) (hline : (apos.endLine == pos.line) = true := by rfl) :
    DE X W (.Call (.Attribute o "upper" apos) [] [] pos) (mUpper m) := by
  refine PE.weak (pe_upper ho hbase hline) ?_
  rintro σ H Q ⟨F, ρ, st, env, ⟨R, E⟩, p⟩
  refine ⟨F, ρ, st, env, ⟨R, E⟩, Post.bind p fun u st1 x F1 ρ1 H1 _ ev R1 i1 p1 => ?_⟩
  split at p1
  · split at p1
    · rename_i c
      exact ⟨⟨_, i1.str_inv⟩, _, i1.str_inv, rfl, c, p1.ok R1 (.d (.str _))⟩
    · exact p1.elim
  · exact p1.elim
end
end Dd

set_option Elab.async false
set_option linter.all false
set_option maxRecDepth 100000
set_option maxHeartbeats 4000000
/-! Own exceptions over Exception with one field: made, read, asked. -/
namespace Dd
open PySem PySem.Spec PyProof.Rows L2

abbrev exTl : List Value := [.type "Exception", .type "BaseException", .type "object"]
abbrev osaV : Value := .builtin "object.__setattr__"
/-- what the written part says of the class at C with the field f -/
structure XcC (K : PySem.W.Frag) (C : Addr) (f : Str) : Prop where
  ini : PySem.W.excInitIn K C exTl "Exception.__new__" = true
  over : PySem.W.excOver K C exTl = true
  sa : PySem.W.findIn K (.ref C) "__setattr__" = some (some osaV)
  no : PySem.W.findIn K (.ref C) f = some none
  exC : PySem.W.subIn K (.ref C) (.type "BaseException") = some true
  tyC : PySem.W.typeIn K (.ref C) = some (.type "type")
  kC : PySem.W.keepIn K (.ref C) = true
  hd : PySem.W.hasDictIn K C = true
  ga : PySem.W.findIn K (.ref C) "__getattribute__" = some (some (.builtin "BaseException.__getattribute__"))
  gg : PySem.W.findIn K (.ref C) "__getattr__" = some none
  cla : PySem.W.findIn K (.ref C) "__class__" = some (some (.builtin "object.__class__"))
  clg : PySem.W.specialIn K (.builtin "object.__class__") "__get__" = some (some (.builtin "getset_descriptor.__get__"))
  clt : PySem.W.takesIn K (.builtin "object.__class__") = some true
  mro : PySem.W.mroIn K C (.type "object") = some true
def dB (p : Prop) [Decidable p] : Bool := decide p
def xcB (K : PySem.W.Frag) (C : Addr) (f : Str) : Bool :=
  PySem.W.excInitIn K C exTl "Exception.__new__" && (PySem.W.excOver K C exTl && (dB (PySem.W.findIn K (.ref C) "__setattr__" = some (some osaV)) && (dB (PySem.W.findIn K (.ref C) f = some none) && (dB (PySem.W.subIn K (.ref C) (.type "BaseException") = some true) &&
  (dB (PySem.W.typeIn K (.ref C) = some (.type "type")) && (PySem.W.keepIn K (.ref C) && (PySem.W.hasDictIn K C && (dB (PySem.W.findIn K (.ref C) "__getattribute__" = some (some (.builtin "BaseException.__getattribute__"))) &&
  (dB (PySem.W.findIn K (.ref C) "__getattr__" = some none) && (dB (PySem.W.findIn K (.ref C) "__class__" = some (some (.builtin "object.__class__"))) && (dB (PySem.W.specialIn K (.builtin "object.__class__") "__get__" = some (some (.builtin "getset_descriptor.__get__"))) &&
  (dB (PySem.W.takesIn K (.builtin "object.__class__") = some true) && dB (PySem.W.mroIn K C (.type "object") = some true)))))))))))))
theorem xcB_ok {K : PySem.W.Frag} {C : Addr} {f : Str} (h : xcB K C f = true) : XcC K C f := by
  obtain ⟨h1, h⟩ := Bool.and_eq_true_iff.mp h
  obtain ⟨h2, h⟩ := Bool.and_eq_true_iff.mp h
  obtain ⟨h3, h⟩ := Bool.and_eq_true_iff.mp h
  obtain ⟨h4, h⟩ := Bool.and_eq_true_iff.mp h
  obtain ⟨h5, h⟩ := Bool.and_eq_true_iff.mp h
  obtain ⟨h6, h⟩ := Bool.and_eq_true_iff.mp h
  obtain ⟨h7, h⟩ := Bool.and_eq_true_iff.mp h
  obtain ⟨h8, h⟩ := Bool.and_eq_true_iff.mp h
  obtain ⟨h9, h⟩ := Bool.and_eq_true_iff.mp h
  obtain ⟨h10, h⟩ := Bool.and_eq_true_iff.mp h
  obtain ⟨h11, h⟩ := Bool.and_eq_true_iff.mp h
  obtain ⟨h12, h⟩ := Bool.and_eq_true_iff.mp h
  obtain ⟨h13, h14⟩ := Bool.and_eq_true_iff.mp h
  exact ⟨h1, h2, of_decide_eq_true h3, of_decide_eq_true h4, of_decide_eq_true h5, of_decide_eq_true h6, h7, h8, of_decide_eq_true h9, of_decide_eq_true h10, of_decide_eq_true h11, of_decide_eq_true h12, of_decide_eq_true h13, of_decide_eq_true h14⟩
/-! ### self.f = v, the first store -/
section
open Builtin Builtin.ObjectAttr
variable {prog : Program} {w : World} {A : Around} {E : Value → Shared → Prop} {R : Result → Shared → Prop} {hp : Heap} {g : Array GenState} {d : Drawn} {t : Nat} {os : OsState}
theorem x_osa {K : PySem.W.Frag} {f : Str} {tk : Tok} {v : Value} {x C : Addr} {fv : Array Value} (T : XcC K C f) (X : K.In hp) (hx : hp.get? x = some { cls := .ref C, data := .fields fv })
    (hq : ∀ h' tk' dx, (∀ b o, b ≠ x → hp.get? b = some o → h'.get? b = some o) → hp.objs.size ≤ dx → dx ≠ x → h'.get? x = some { cls := .ref C, dict := some dx, data := .fields fv } →
      h'.Ns1 dx (fun y => if y = f then some v else none) → R (.ok (.ret .none)) ⟨h', g, d, tk', os⟩) :
    codeAny (model prog w) A (.call (.builtin "object.__setattr__") ⟨[.ref x, .str f tk, v], []⟩) R ⟨hp, g, d, t, os⟩ := by
  have I : PySem.W.InstAt hp x { cls := .ref C, data := .fields fv } C none := ⟨hx, rfl, rfl, trivial⟩
  have hxs : x ≠ hp.objs.size := Nat.ne_of_lt (Heap.lt_size hx)
  have ht : PySem.W.takerIn K C f = some none := by unfold PySem.W.takerIn; rw [T.no]; rfl
  obtain ⟨cd, hcd, hh⟩ := PySem.W.any_some T.hd
  refine PySem.W.osa_openX (s := ⟨hp, g, d, t, os⟩) PySem.F.store_Exception X I T.over ht fun b => ?_
  have hcls : PySem.W.Looks (model prog w) hp (classData C) cd := PySem.W.looks_clsIn X hcd
  obtain ⟨nm, bs, mro, ns, qn, hd, sn, sb, ab, col, del⟩ := cd
  dsimp only at hh
  subst hh
  show wpAny _ _ (storeInOwnDict (.ref x) (.ref C) (.str f tk) f v b) _ _ _
  unfold storeInOwnDict ownDictForStores
  repeat (first | with_reducible refine PySem.HandSPX.store_in_new ?_ ?_ | with_reducible refine wpAny_loadPart_at hx ?_ | with_reducible refine hcls.at ?_ | wp_step)
  · exact ⟨_, #[], _, (Heap.get?_update_ne _ _ _ _ hxs.symm).trans (Heap.get?_push_at rfl rfl), rfl, fun e he => absurd he (by simp), fun _ => rfl⟩
  · intro h' tk' hn' hs
    have hx1 : (hp.push { cls := .type "dict", data := .dict #[] }).get? x = some { cls := .ref C, data := .fields fv } := Heap.get?_push_of_some _ hx
    refine hq h' tk' hp.objs.size (fun b o hb ho => ?_) (Nat.le_refl _) hxs.symm ?_ hn'
    · exact (hs.2 b (Nat.ne_of_lt (Heap.lt_size ho))).trans ((Heap.get?_update_ne _ _ _ _ hb).trans (Heap.get?_push_of_some _ ho))
    · exact (hs.2 x hxs).trans (Heap.get?_update_self _ hx1 rfl)
end
section
variable {X : Cx} {pins : List (Addr × Obj)} {σ : L2.St} {H : Hp} {s : Shared} {a C dx : Addr} {f : Str} {y : V} {u : Value} {E : Value → Shared → Prop} {A : Around}
theorem xst_new {Q : Unit → Shared → Prop} (T : XcC X.K C f) (I : Inv X pins σ H s) (e : H a = some (exo a C none)) (ry : RelV y u)
    (h : ∀ dx s', H dx = none → dx ≠ a → Inv X pins σ (upd (upd H dx (exd dx [(f, y)])) a (exo a C (some dx))) s' → Q () s') : wpAny (model X.prog X.w) A (setAttr (.ref a) f u) Q E s := by
  obtain ⟨t1, ho⟩ := exo_at I.hok e
  obtain ⟨hp, g, d, t, os⟩ := s
  refine PySem.W.set_plain I.kIn (ox := { cls := .ref C, dict := none, data := .fields #[.ref t1, .none, .none, .none, .bool false, .none] }) (od := none) ⟨ho, rfl, rfl, trivial⟩ T.sa ?_
  refine x_osa T I.kIn ho (fun h' tk' dx k dn dne hx hn => ?_)
  have hnd : H dx = none := I.hok.fresh dn
  have nd : ∀ {b : Addr} {o : Obj}, hp.get? b = some o → b ≠ dx := fun {b o} q => Nat.ne_of_lt (Nat.lt_of_lt_of_le (Heap.lt_size q) dn)
  have na : ∀ {b : Addr}, H b = none → b ≠ a := fun {b} n z => by rw [z, e] at n; cases n
  have Un1 : Un X.fs [] H (upd (upd H dx (exd dx [(f, y)])) a (exo a C (some dx))) hp h' :=
    { keep := fun b o q n _ _ => k b o (na n) q
      slot := fun b o q n _ _ => ⟨o.slots, k b o (na n) q⟩
      free := fun b o q n _ => by rw [upd_ne (na n), upd_ne (nd q)]; exact n
      there := fun b o q _ => by
        by_cases hb : b = a
        · exact ⟨_, by rw [hb]; exact hx⟩
        · exact ⟨o, k b o hb q⟩
      tups := fun b xs q => by rw [upd_ne (at_ne e q exo_tup), upd_ne (ne_of_none q hnd)]; exact q
      frzs := fun b o v q => by rw [upd_ne (at_ne e q exo_frz), upd_ne (ne_of_none q hnd)]; exact q
      tbls := fun b ps q => ⟨#[], by rw [upd_ne (at_ne e q exo_tbl), upd_ne (ne_of_none q hnd), q]; simp⟩ }
  refine h dx _ hnd dne (I.un (t' := tk') Un1 fun b o q => ?_)
  by_cases hb : b = a
  · subst hb
    rw [upd_same] at q
    cases q
    exact exo_ok hx
  · rw [upd_ne hb] at q
    by_cases hd : b = dx
    · subst hd
      rw [upd_same] at q
      cases q
      exact exd_ok hn (relO_put (fs := []) ry fun g => True.intro)
    · rw [upd_ne hd] at q
      exact (I.hok b o q).stay (fun c v hc z => k c v (by
          rcases hc with hc | hc
          · rw [hc]; exact hb
          · exact at_ne e hc exo_own) z)
        (fun c hc => by rw [upd_ne (at_ne e hc exo_own), upd_ne (ne_of_none hc hnd)]; exact hc) (fun c xs hc => by rw [upd_ne (at_ne e hc exo_tup), upd_ne (ne_of_none hc hnd)]; exact hc)
end
def tXst (K : PySem.W.Frag) (C : Addr) (f : Str) (to te : TE) : TS := fun D σ H => te σ H fun y H1 => to σ H1 fun x H2 => ∃ a : Addr, x = .ref a ∧ H2 a = some (exo a C none) ∧ ∀ dx, H2 dx = none → dx ≠ a → D.nx σ (upd (upd H2 dx (exd dx [(f, y)])) a (exo a C (some dx)))
theorem ps_xst {X : Cx} {o e : Expr} {to te : TE} {f : Str} {C : Addr} {p' pos : Pos} (T : XcC X.K C f) (ho : PE X o to) (he : PE X e te) (hs : swapsWith e (some (.Attribute o f p')) pos.line X.env = pure false := by rfl) : PS X (.Assign [.Attribute o f p'] e pos) (tXst X.K C f to te) := by
  refine ⟨fun pins s σ H D I h => ?_⟩
  refine plainObj_wpAny_Assign_Attribute (thn (he.run pins s σ H _ I h) fun v s1 ⟨y, H1, I1, r1, q1⟩ => thn (ho.run pins s1 σ H1 _ I1 q1) fun u s2 ⟨x, H2, I2, r2, a, ex, ea, q⟩ => ?_) hs
  subst ex
  obtain rfl : u = Value.ref a := r2
  exact xst_new T I2 ea r1 fun dx s' n ne J => ⟨σ, _, J, q dx n ne⟩
/-- the promise of such an __init__ -/
def spI (C : Addr) (f : Str) : Sp := fun vs H Q _ => ∃ (a : Addr) (y : V), vs = [.ref a, y] ∧ H a = some (exo a C none) ∧ ∀ dx, H dx = none → dx ≠ a → Q .non (upd (upd H dx (exd dx [(f, y)])) a (exo a C (some dx)))
theorem fn_init {P : Program} {w : World} {K : PySem.W.Frag} {mg : Str → Option Value} {base : Heap} {C fI : Addr} {fd : FuncData} {f qual : Str} {params : Arguments} {scope : Scope} {p1 p2 p3 p4 : Pos} (T : XcC K C f)
    (F : FunD K "__init__" qual params [.Assign [.Attribute (.Name "self" p1) f p2] (.Name f p3) p4] scope [] [] fI fd) (S : FnScope ["self", f] ["self", f] scope)
    (h1 : scope.names.lookup ("self" : Str) = some .local) (h2 : scope.names.lookup f = some .local) (h3 : (f == ("__debug__" : Str)) = false) (h4 : (f == ("__classdict__" : Str)) = false) :
    FnOk P w K mg base CX0 1 fI fd ["self", f] (spI C f) := by
  refine F.ok S (fun vs H Q E h => ?_) (fun cdv A outer s H vs Q E hr h => ⟨tXst K C f (tVar 0) (tVar 1), pss_one (ps_xst T (pe_var rfl (Or.inl h1) (by decide) (by decide)) (pe_var rfl (Or.inl h2) h3 h4) (by rfl)), ?_⟩)
  · obtain ⟨a, y, rfl, _⟩ := h
    rfl
  · obtain ⟨a, y, rfl, ha, q⟩ := h
    exact ⟨y, rfl, .ref a, rfl, a, rfl, ha, q⟩
end Dd

set_option Elab.async false
set_option linter.all false
set_option maxRecDepth 100000
set_option maxHeartbeats 4000000
/-! Own exceptions made: as values, to be raised; their field, their classes. -/
namespace Dd
open PySem PySem.Spec PyProof.Rows L2

section
variable {X : Cx} {pins : List (Addr × Obj)} {σ : L2.St} {H : Hp} {s : Shared}
/-- the exception and its dict stand told otherwise -/
theorem inv_retold {a C d : Addr} {fs : List (Str × V)} (I : Inv X pins σ H s) (ea : H a = some (exo a C (some d))) (ed : H d = some (exd d fs)) : Inv X pins σ (upd (upd H d (.xd fs)) a (xo a C d)) s := by
  obtain ⟨t1, ho⟩ := exo_at I.hok ea
  obtain ⟨mA, hns, rel⟩ := exd_at I.hok ed
  have hda : d ≠ a := fun z => by
    obtain ⟨o, es, ep, e1, e2, _⟩ := hns
    rw [z, ho] at e1
    cases e1
    cases e2
  obtain ⟨o, _, _, eo, _⟩ := id hns
  obtain ⟨hp, g, dr, t, os⟩ := s
  have I1 : Inv X pins σ (upd H d (.xd fs)) ⟨hp, g, dr, t, os⟩ := I.write (t' := t) (x := d) (e := d) (o := .xd fs) (h' := hp) (by rw [ed]; exact True.intro) (.inl rfl) (fun b u _ q => q) ⟨o, eo⟩ ⟨mA, hns, rel⟩
  have ea1 : (upd H d (.xd fs)) a = some (exo a C (some d)) := by rw [upd_ne (Ne.symm hda)]; exact ea
  exact I1.write (t' := t) (x := a) (e := a) (o := xo a C d) (h' := hp) (by rw [ea1]; exact True.intro) (.inl rfl) (fun b u _ q => q) ⟨_, ho⟩ (xo_ok ho rfl rfl rfl rfl)
end
/-- the class at C as the rest sees it: its name, its __init__ -/
structure XcF (P : Program) (w : World) (K : PySem.W.Frag) (mg : Str → Option Value) (base : Heap) (x f : Str) : Prop where
  m : mg x = some (.ref (He.ga K x))
  c : XcC K (He.ga K x) f
  i : ∃ (fI : Addr) (fd : FuncData), PySem.W.findIn K (.ref (He.ga K x)) "__init__" = some (some (.ref fI)) ∧ PySem.W.typeIn K (.ref fI) = some (.type "function") ∧ FnOk P w K mg base CX0 1 fI fd ["self", f] (spI (He.ga K x) f) ∧ Binds K fd ["self", f] [] ∧ ∀ (s : Shared) (e u : Value), BindsTo s fd ⟨[e], [(f, u)]⟩ [("self", e), (f, u)]
section
variable {X : Cx} {W : WX} {k : Nat}
/-- behind the class's call: what its __init__ left -/
theorem make_go {pins : List (Addr × Obj)} {σ : L2.St} {H : Hp} {s : Shared} {C fI : Addr} {fd : FuncData} {f : Str} {y : V} {u : Value} {Q : Value → Shared → Prop} {E : Value → Shared → Prop} (T : XcC X.K C f) (iC : PySem.W.findIn X.K (.ref C) "__init__" = some (some (.ref fI))) (tI : PySem.W.typeIn X.K (.ref fI) = some (.type "function"))
    (F1 : FnOk X.prog X.w X.K X.mg X.base CX0 1 fI fd ["self", f] (spI C f)) (hb : Binds X.K fd ["self", f] []) (hr : Room 2 X.A) (I : Inv X pins σ H s) (ry : RelV y u)
    (hq : ∀ (hp : Heap) (g : Array GenState) (dr : Drawn) (tk : Nat) (os : OsState) (hp2 h2 : Heap) (g2 : Array GenState) (d2 : Drawn) (t2 : Nat) (a dx : Addr) (H2 : Hp), s = ⟨hp, g, dr, tk, os⟩ → a = hp.objs.size + 1 → (∀ b o, hp.get? b = some o → hp2.get? b = some o) →
      Inv X pins σ (upd H a (exo a C none)) ⟨hp2, g, dr, tk, os⟩ → Un (frs X.stack) [] (upd H a (exo a C none)) H2 hp2 h2 → HOk X.prog X.w H2 h2 → AllBare g2 → H a = none → H dx = none → dx ≠ a → H2 = upd (upd (upd H a (exo a C none)) dx (exd dx [(f, y)])) a (exo a C (some dx)) → Q (.ref a) ⟨h2, g2, d2, t2, os⟩) :
    wpAny (model X.prog X.w) X.A (call (.ref C) [u]) Q E s := by
  obtain ⟨hp, g, dr, tk, os⟩ := s
  obtain ⟨nm, N, qn, bs, bm, hdct, sn, sub, ab, col, dd, k0, k1, k2, k3, k5, hC, hT⟩ := PySem.W.excInit_of I.kIn T.ini
  have hsz : hp.objs.size ≤ hp.objs.size + 1 := Nat.le_succ _
  have hn : H (hp.objs.size + 1) = none := I.hok.fresh hsz
  have kk : ∀ b o, hp.get? b = some o → ((hp.push (PySem.W.kdv_tup [u])).push (PySem.HandSPX.excO C hp.objs.size)).get? b = some o := fun b o e => Heap.get?_push_of_some _ (Heap.get?_push_of_some _ e)
  have hget : ((hp.push (PySem.W.kdv_tup [u])).push (PySem.HandSPX.excO C hp.objs.size)).get? (hp.objs.size + 1) = some (PySem.HandSPX.excO C hp.objs.size) := by heap_get
  have I2 : Inv X pins σ (upd H (hp.objs.size + 1) (exo (hp.objs.size + 1) C none)) ⟨(hp.push (PySem.W.kdv_tup [u])).push (PySem.HandSPX.excO C hp.objs.size), g, dr, tk, os⟩ :=
    I.laid (t' := tk) (a := hp.objs.size + 1) (o := exo (hp.objs.size + 1) C none) (h' := (hp.push (PySem.W.kdv_tup [u])).push (PySem.HandSPX.excO C hp.objs.size)) kk hsz (exo_ok hget)
  have r2 : Vals [V.ref (hp.objs.size + 1), y] [Value.ref (hp.objs.size + 1), u] := .cons rfl (.cons ry .nil)
  have b2 := hb _ [Value.ref (hp.objs.size + 1), u] I2.kIn rfl
  rw [List.append_nil] at b2
  refine wpAny_call (PySem.HandSPX.call_own PySem.F.excBase_Exception hT hC (PySem.W.looks_findIn I.kIn iC) (fun self => PySem.W.bind_fn I.kIn self tI) (by show 1 ≤ sizeLine; rw [sizeLine_eq]; omega)
    (codeAny_mono (F1.run _ X.stack _ _ ⟨[Value.ref (hp.objs.size + 1), u], []⟩ [Value.ref (hp.objs.size + 1), u] [V.ref (hp.objs.size + 1), y] (fun v H2 => v = .non ∧ ∃ dx, H dx = none ∧ dx ≠ hp.objs.size + 1 ∧ H2 = upd (upd (upd H (hp.objs.size + 1) (exo (hp.objs.size + 1) C none)) dx (exd dx [(f, y)])) (hp.objs.size + 1) (exo (hp.objs.size + 1) C (some dx))) (fun _ _ _ => False)
      (hr.make C [u] []) (I2.env0.make C [u] []) b2 r2 ⟨_, y, rfl, upd_same, fun dx n ne => ⟨rfl, dx, by rw [upd_ne ne] at n; exact n, ne, rfl⟩⟩) fun r s' hq' => ?_))
  cases r with
  | error er => exact hq'.elim
  | ok fl =>
    cases fl with
    | ret v =>
      obtain ⟨v2, H2, os2, bare2, un2, hok2, rv, ev, dx, n, ne, eH⟩ := hq'
      subst ev
      obtain ⟨h2, g2, d2, t2, os'⟩ := s'
      obtain rfl : os' = os := os2
      exact ⟨rv, hq hp g dr tk _ _ h2 g2 d2 t2 _ dx H2 rfl rfl kk I2 un2 hok2 bare2 hn n ne eH⟩
    | next => exact False.elim hq'
    | brk => exact False.elim hq'
    | cont => exact False.elim hq'
/-- C(e), held as a value -/
def tXv (C : Addr) (f : Str) (te : TE) : TE := fun σ H Q => te σ H fun y H1 => ∀ a d, H1 a = none → H1 d = none → d ≠ a → Q (.ref a) (upd (upd H1 d (.xd [(f, y)])) a (xo a C d))
theorem pe_xv {x f : Str} {e : Expr} {te : TE} {p pos : Pos} (T : XcF X.prog X.w X.K X.mg X.base x f) (hr : Room 2 X.A) (hg : Gl X x) (he : PE X e te)
    (hdb : (x == ("__debug__" : Str)) = false := by decide) (hs : starEach [e] X.env = (false, eval e X.env) :: starEach [] X.env := by rfl) : PE X (.Call (.Name x p) [e] [] pos) (tXv (He.ga X.K x) f te) := by
  refine ⟨fun pins s σ H Q I h => ?_⟩
  obtain ⟨fI, fd, iC, tI, F1, hb, _⟩ := T.i
  refine wpAny_Call_Name_kw (ld_glob I hg T.m ?_ hdb)
  have ha : PA X [e] (tCons te tNil) := pa_cons he pa_nil hs
  refine PySem.W.callWith_K (h₀ := X.base) I.ok.mod.kin T.c.kC (thn (ha.run pos pins s σ H (fun vs H1 => ∃ y, vs = [y] ∧ ∀ a d, H1 a = none → H1 d = none → d ≠ a → Q (.ref a) (upd (upd H1 d (.xd [(f, y)])) a (xo a (He.ga X.K x) d))) I ?_) fun us s1 hh => ?_) hs rfl
  · have h' : te σ H fun y H1 => ∀ a d, H1 a = none → H1 d = none → d ≠ a → Q (.ref a) (upd (upd H1 d (.xd [(f, y)])) a (xo a (He.ga X.K x) d)) := h
    have key : te σ H (fun y H1 => ∃ z, [y] = [z] ∧ ∀ a d, H1 a = none → H1 d = none → d ≠ a → Q (.ref a) (upd (upd H1 d (.xd [(f, z)])) a (xo a (He.ga X.K x) d))) := by
      have e2 : (fun (y : V) (H1 : Hp) => ∃ z, [y] = [z] ∧ ∀ a d, H1 a = none → H1 d = none → d ≠ a → Q (.ref a) (upd (upd H1 d (.xd [(f, z)])) a (xo a (He.ga X.K x) d))) = fun y H1 => ∀ a d, H1 a = none → H1 d = none → d ≠ a → Q (.ref a) (upd (upd H1 d (.xd [(f, y)])) a (xo a (He.ga X.K x) d)) := by
        funext y H1
        refine propext ⟨fun ⟨z, ez, q⟩ => ?_, fun q => ⟨y, rfl, q⟩⟩
        cases ez
        exact q
      rw [e2]
      exact h'
    exact key
  · obtain ⟨vs, H1, I1, r1, y, rfl, q⟩ := hh
    obtain ⟨u, rfl, ru⟩ := Vals.one r1
    refine ⟨I1.kIn, ?_⟩
    show wpAny _ _ (call (.ref (He.ga X.K x)) [u]) _ _ _
    refine make_go T.c iC tI F1 hb hr I1 ru fun hp g dr tk os hp2 h2 g2 d2 t2 a dx H2 es ea kk I2 un hok bare na nd ne eH => ?_
    have J : Inv X pins σ H2 ⟨h2, g2, d2, t2, os⟩ := I2.call (h' := h2) (g' := g2) (d' := d2) (t' := t2) (ch := []) un hok bare (fun b z => absurd z (by simp))
    have Jr := inv_retold J (a := a) (C := He.ga X.K x) (d := dx) (fs := [(f, y)]) (by rw [eH, upd_same]) (by rw [eH, upd_ne ne, upd_same])
    refine ⟨.ref a, _, Jr, rfl, ?_⟩
    have e3 : upd (upd H2 dx (.xd [(f, y)])) a (xo a (He.ga X.K x) dx) = upd (upd H1 dx (.xd [(f, y)])) a (xo a (He.ga X.K x) dx) := by
      funext b
      by_cases hb : b = a
      · subst hb; rw [upd_same, upd_same]
      · rw [upd_ne hb, upd_ne hb]
        by_cases hd : b = dx
        · subst hd; rw [upd_same, upd_same]
        · rw [upd_ne hd, upd_ne hd, eH, upd_ne hb, upd_ne hd, upd_ne hb]
    rw [e3]
    exact q a dx na nd ne
/-- C(e), to be raised -/
def tXr (C : Addr) (f : Str) (te : TE) : L2.St → Hp → XK → Prop := fun σ H Q => te σ H fun y H1 => ∀ d, H1 d = none → Q (.ref C) (some d) (upd H1 d (.xd [(f, y)]))
theorem te_one {te : TE} {σ : L2.St} {H : Hp} {P : V → Hp → Prop} (h : te σ H P) : te σ H fun y H1 => ∃ z, [y] = [z] ∧ P z H1 := by
  have e2 : (fun (y : V) (H1 : Hp) => ∃ z, [y] = [z] ∧ P z H1) = P := by
    funext y H1
    refine propext ⟨fun ⟨z, ez, q⟩ => ?_, fun q => ⟨y, rfl, q⟩⟩
    cases ez
    exact q
  rw [e2]
  exact h
theorem pmk_x {x f : Str} {e : Expr} {te : TE} {p pos : Pos} (T : XcF X.prog X.w X.K X.mg X.base x f) (hr : Room 2 X.A) (hg : Gl X x) (he : PE X e te)
    (hdb : (x == ("__debug__" : Str)) = false := by decide) (hs : starEach [e] X.env = (false, eval e X.env) :: starEach [] X.env := by rfl) : L2N.PMk X (.Call (.Name x p) [e] [] pos) (tXr (He.ga X.K x) f te) := by
  intro pins s σ H Q I h
  obtain ⟨fI, fd, iC, tI, F1, hb, _⟩ := T.i
  refine wpAny_Call_Name_kw (ld_glob I hg T.m ?_ hdb)
  have ha : PA X [e] (tCons te tNil) := pa_cons he pa_nil hs
  refine PySem.W.callWith_K (h₀ := X.base) I.ok.mod.kin T.c.kC (thn (ha.run pos pins s σ H (fun vs H1 => ∃ y, vs = [y] ∧ ∀ d, H1 d = none → Q (.ref (He.ga X.K x)) (some d) (upd H1 d (.xd [(f, y)]))) I (te_one h)) fun us s1 hh => ?_) hs rfl
  obtain ⟨vs, H1, I1, r1, y, rfl, q⟩ := hh
  obtain ⟨u, rfl, ru⟩ := Vals.one r1
  refine ⟨I1.kIn, ?_⟩
  show wpAny _ _ (call (.ref (He.ga X.K x)) [u]) _ _ _
  refine make_go T.c iC tI F1 hb hr I1 ru fun hp g dr tk os hp2 h2 g2 d2 t2 a dx H2 es ea kk I2 un hok bare na nd ne eH => ?_
  subst es
  subst ea
  obtain ⟨t0, G, J, kG, ge, hoe, nn⟩ := mk_end0 (d2 := d2) (t2 := t2) (a := hp.objs.size + 1) (C := He.ga X.K x) (d := dx) (fs := [(f, y)]) I1 (Nat.le_succ _) kk un hok rfl bare (by rw [eH, upd_same]) (by rw [eH, upd_ne ne, upd_same]) nd
  refine ⟨hp.objs.size + 1, _, _, ⟨G, g2, d2, t2, os⟩, _, .ref (He.ga X.K x), some dx, rfl, J, kG, ge, hoe, ⟨rfl, rfl, fun vs hv => ?_⟩, rfl, rfl, nn, rfl, bare, raises_own T.c.exC T.c.tyC, ?_⟩
  · cases hv; rfl
  · have e3 : upd (del H2 (hp.objs.size + 1)) dx (.xd [(f, y)]) = upd H1 dx (.xd [(f, y)]) := by
      funext b
      by_cases hd : b = dx
      · subst hd; rw [upd_same, upd_same]
      · rw [upd_ne hd, upd_ne hd]
        by_cases hb : b = hp.objs.size + 1
        · subst hb; rw [del_same, na]
        · rw [del_ne hb, eH, upd_ne hb, upd_ne hd, upd_ne hb]
    rw [e3]
    exact q dx nd
/-- e.f, e an exception held -/
def tXat (K : PySem.W.Frag) (n : Str) (te : TE) : TE := fun σ H Q => te σ H fun x H1 => ∃ (a C dd : Addr) (fs : List (Str × V)) (v : V), x = .ref a ∧ XcC K C n ∧ H1 a = some (xo a C dd) ∧ H1 dd = some (.xd fs) ∧ fs.lookup n = some v ∧ Q v H1
theorem pe_xat {e : Expr} {te : TE} {pos : Pos} {n : Str} (he : PE X e te) (hb : attributeBase e n X.env (eval e X.env) = eval e X.env := by rfl) : PE X (.Attribute e n pos) (tXat X.K n te) := by
  refine ⟨fun pins s σ H Q I h => ?_⟩
  refine attr_of hb (thn (he.run pins s σ H _ I h) fun u s1 hh => ?_)
  obtain ⟨x, H1, I1, rx, a, C, dd, fs, v, ex, T, ea, ed, l, q⟩ := hh
  subst ex
  obtain rfl : u = Value.ref a := rx
  obtain ⟨oe, vs, ho, hc, hd, hv, _⟩ := xo_at I1.hok ea
  have hx : ObjOk X.prog X.w H1 s1.heap dd (.xd fs) := I1.hok dd _ ed
  obtain ⟨mA, hns, hr⟩ := hx
  obtain ⟨od, ho2, hl⟩ := lookIn_ns hns
  obtain ⟨u, hu, ru⟩ := RelO.some_of (v := v) (o := mA n) (by rw [← l]; exact hr n)
  have J : PySem.W.InstAt s1.heap a oe C (some od) := ⟨ho, hc, by unfold PySem.W.notCls; rw [hv] <;> rfl, by rw [hd]; exact ho2⟩
  exact HandSPX.exc_get I1.kIn J T.ga T.gg T.exC (PySem.W.findObj_own T.hd T.no rfl (by rw [hl, hu])) (handed_of ru) ⟨v, H1, I1.tok _, ru, q⟩
/-- isinstance(e, c), e an exception held -/
def rIsX (K : PySem.W.Frag) : List V → Hp → VK → Prop := fun xs H Q => ∃ (a C dd : Addr) (f : Str) (fs : List (Str × V)) (c : V) (cv : Value) (b : Bool), xs = [.ref a, c] ∧ (∀ u, RelV c u → u = cv) ∧ XcC K C f ∧ H a = some (xo a C dd) ∧ H dd = some (.xd fs) ∧ PySem.W.kitOne K (.ref C) cv = some b ∧ Q (.bl b) H
theorem call_isX : CallR X (.builtin "isinstance") (rIsX X.K) := by
  intro pins s σ H xs us Q I r h
  obtain ⟨a, C, dd, f, fs, c, cv, b, rfl, hcv, T, ea, ed, e, q⟩ := h
  cases r with
  | cons rx rr =>
    cases rr with
    | cons rt rr =>
      cases rr
      cases rx
      have ec := hcv _ rt
      subst ec
      obtain ⟨oe, vs, ho, hc, hd, hv, _⟩ := xo_at I.hok ea
      have hx : ObjOk X.prog X.w H s.heap dd (.xd fs) := I.hok dd _ ed
      obtain ⟨mA, hns, hr⟩ := hx
      obtain ⟨od, ho2, hl⟩ := lookIn_ns hns
      have J : PySem.W.InstAt s.heap a oe C (some od) := ⟨ho, hc, by unfold PySem.W.notCls; rw [hv] <;> rfl, by rw [hd]; exact ho2⟩
      have hcl : (PySem.W.clsIn X.K C).isSome = true := by
        obtain ⟨cd, h1, _⟩ := PySem.W.any_some T.hd
        rw [h1]; rfl
      exact PySem.W.kia_one (PySem.W.kitx_exc (od := some od) (ox := oe) hcl T.ga T.gg T.exC T.cla T.clg T.clt T.mro) I.kIn J e (fun z => nomatch z) fun tk => ⟨.bl b, H, I.kept (t' := tk) fun _ _ z => z, rfl, q⟩
end
end Dd

set_option Elab.async false
set_option linter.all false
set_option maxRecDepth 100000
set_option maxHeartbeats 4000000
/-! try: .. except C as e: .., the exception told as a value within the suite. -/
namespace Dd
open PySem PySem.Spec PyProof.Rows L2

section
variable {X : Cx} {pins : List (Addr × Obj)} {σ : L2.St} {H : Hp} {s : Shared}
/-- an object that is there, younger than the entry, is told -/
theorem inv_adopt {a : Addr} {o : HO} {oe : Obj} {vs : Array Value} (I : Inv X pins σ H s) (n0 : X.s_0.heap.get? a = none) (na : H a = none) (nL : a ≠ X.env.locals) (he : s.heap.get? a = some oe) (hd : oe.data = .fields vs) (np : ∀ p ∈ X.pn ++ pins, p.1 ≠ a)
    (new : ObjOk X.prog X.w (upd H a o) s.heap a o) : Inv X pins σ (upd H a o) s := by
  have n0' : ∀ {b : Addr} {u : Obj}, X.s_0.heap.get? b = some u → b ≠ a := fun {b u} e z => by rw [z, n0] at e; cases e
  have ne : ∀ {b : Addr} {u : HO}, H b = some u → b ≠ a := fun {b u} e z => by rw [z, na] at e; cases e
  refine ⟨I.ok, I.os, I.bare, ⟨I.base.keep, I.base.slot, fun b u e n hx => by rw [upd_ne (n0' e)]; exact I.base.free b u e n hx, I.base.there, fun b xs e => ?_, fun b u v e => ?_, fun b ps e => ?_⟩, I.loc, I.cell, by rw [upd_ne (Ne.symm nL)]; exact I.free, fun x c e => ?_, fun p hp => ?_, I.hok.laidN (fun _ _ q => q) na new, I.len⟩
  · have z := I.base.tups b xs e
    rw [upd_ne (ne z)]; exact z
  · have z := I.base.frzs b u v e
    rw [upd_ne (ne z)]; exact z
  · obtain ⟨m, z⟩ := I.base.tbls b ps e
    exact ⟨m, by rw [upd_ne (ne z)]; exact z⟩
  · have hc : c ≠ a := fun z => by
      obtain ⟨w, o', e1, e2⟩ := I.cell x c e
      rw [z, he] at e1
      cases e1
      rw [hd] at e2
      cases e2
    rw [upd_ne hc]
    exact I.freeC x c e
  · obtain ⟨h1, h2, h3⟩ := I.pin p hp
    exact ⟨h1, by rw [upd_ne (np p hp)]; exact h2, h3⟩
theorem inv_suite (I : Inv X pins σ H s) (a : Addr) : Inv (X.suite a (X.pn ++ pins)) [] σ H s :=
  ⟨I.ok.suite _ _, I.os, I.bare, I.base, I.loc, I.cell, I.free, I.freeC, fun p hp => I.pin p (by rw [List.append_nil] at hp; exact hp), I.hok, I.len⟩
theorem inv_unsuite {a : Addr} {pn' : List (Addr × Obj)} (I : Inv (X.suite a (X.pn ++ pins)) pn' σ H s) (ok : X.Ok) : Inv X pins σ H s :=
  ⟨ok, I.os, I.bare, I.base, I.loc, I.cell, I.free, I.freeC, fun p hp => I.pin p (List.mem_append_left _ hp), I.hok, I.len⟩
end
/-- one clause: its class, the slot of its name, what its suite does with the exception at a -/
structure Cl where
  c : Value
  i : Option Nat
  ts : Addr → Value → Option Addr → TS
def Cl.fin (i : Option Nat) (D : Ends) : Ends := match i with
  | none => D
  | some i => { nx := fun σ' H' => D.nx (σ'.set i none) H', rt := D.rt, bk := fun σ' H' => D.bk (σ'.set i none) H', ct := fun σ' H' => D.ct (σ'.set i none) H' }
def Cl.sl (i : Option Nat) (a : Addr) (σ : L2.St) : L2.St := match i with
  | none => σ
  | some i => σ.set i (some (.ref a))
/-- what the clauses wish of an exception of the body -/
def wCl (K : PySem.W.Frag) (Wout : WX) (D : Ends) : List Cl → WX
  | [] => Wout
  | c :: r => fun cls d σ H => ∃ b, PySem.W.exmOne K cls c.c = some b ∧ (b = true → ∃ C d0, cls = .ref C ∧ d = some d0 ∧ ∀ a, H a = none → c.ts a cls d (Cl.fin c.i D) (Cl.sl c.i a σ) (upd H a (xo a C d0))) ∧ (b = false → wCl K Wout D r cls d σ H)
inductive ClsOk (X : Cx) : List ExceptHandler → List Cl → Prop
  | nil : ClsOk X [] []
  | cons {x : Str} {c : Value} {ts : Addr → Value → Option Addr → TS} {b₀ : Stmt} {suite : List Stmt} {np pos' : Pos} {hds : List ExceptHandler} {l : List Cl} (hc : Names X x c)
      (hsu : ∀ (a : Addr) (cls : Value) (d : Option Addr) (pn : List (Addr × Obj)), PSs (X.suite a pn) (b₀ :: suite) (ts a cls d)) (r : ClsOk X hds l) : ClsOk X (.ExceptHandler (some (.Name x np)) none (b₀ :: suite) pos' :: hds) (⟨c, none, ts⟩ :: l)
  | consN {x n : Str} {c : Value} {i : Nat} {ts : Addr → Value → Option Addr → TS} {b₀ : Stmt} {suite : List Stmt} {np pos' : Pos} {hds : List ExceptHandler} {l : List Cl} (hc : Names X x c) (hi : X.N[i]? = some n) (hln : X.env.kindOf n = some .local)
      (hsu : ∀ (a : Addr) (cls : Value) (d : Option Addr) (pn : List (Addr × Obj)), PSs (X.suite a pn) (b₀ :: suite) (ts a cls d)) (r : ClsOk X hds l) : ClsOk X (.ExceptHandler (some (.Name x np)) (some n) (b₀ :: suite) pos' :: hds) (⟨c, some i, ts⟩ :: l)
section
variable {X : Cx} {body : List Stmt} {h₀ : ExceptHandler} {hds : List ExceptHandler} {l : List Cl} {pos : Pos} {tb : WX → TS} {Wout : WX}
theorem ps_tryD (hex : X.ex = []) (hN : X.N.Nodup) (hs : X.stack = X.env :: X.outer) (hf : X.env.frame = some X.env.locals) (tk : L2N.Takes X Wout)
    (hb : ∀ (W : WX) (pn : List (Addr × Obj)) (xe : Value → Shared → Prop), L2N.Takes (X.tr pn xe) W → PassesOwn (model X.prog X.w) X.A X.env xe → PSs (X.tr pn xe) body (tb W))
    (hh : ClsOk X (h₀ :: hds) l) : PS X (.Try body (h₀ :: hds) [] [] pos) (fun D σ H => tb (wCl X.K Wout D l) D σ H) := by
  refine ⟨fun pins s σ H D I h => ?_⟩
  have ok := I.ok
  have hfr : X.A.frames = some (X.env :: X.outer) := by rw [ok.frames, hs]
  refine wpAny_Try_except ?_
  refine wpAny_mono ((hb (wCl X.K Wout D l) (X.pn ++ pins) (fun e s₁ => wpAny (model X.prog X.w) X.A (noteFrame e X.env) (fun _ s₂ => wpAny (model X.prog X.w) X.A (setFlight e none) (fun _ s₃ =>
    wpAny (model X.prog X.w) X.A (handleBy e X.env (h₀ :: hds)) (SP X pins D) X.xe s₃) X.xe s₂) X.xe s₁) (fun u s' xx => ?_) PassesOwn.looking).run [] s σ H D (I.toTry _) h) (fun f s1 hsp => ?_) (fun e s1 he => he)
  · obtain ⟨a, B, sI, pins', σ', H', cls, d, rfl, J', nb, up, sky, na, os, ag, w⟩ := xx
    have J : Inv X pins σ' H' sI := J'.ofTry ok
    have sky' : Sky B (X.env :: X.outer) a (L2N.Zn cls d) X.env.locals s'.heap := by rw [← hs]; exact sky
    have bn : B.get? a = none := by
      rcases sky' with ⟨_, z, _⟩ | z | z
      · exact z
      · exact z.2.1
      · exact z.2.1
    show wpAny (model X.prog X.w) X.A (noteFrame (.ref a) X.env) _ _ _
    refine L2N.Sky.land L2N.Zn.steady hfr hf sky' fun h3 fl3 up3 => ?_
    have J3 : Inv X pins σ' H' { s' with heap := h3 } := J.landed nb fl3.1 (up.trans up3) os ag
    obtain ⟨oe3, vs3, he3, hz3, hd3⟩ := fl3.there
    have nfr : a ∉ frs (X.env :: X.outer) := fun hm => by
      obtain ⟨_, o', e', hnf⟩ := fl3.2.2.1.mem hm
      rw [he3] at e'; cases e'
      exact hnf _ hd3
    have nL : a ≠ X.env.locals := fun z => nfr (List.mem_filterMap.mpr ⟨X.env, List.mem_cons_self, by rw [hf, z]⟩)
    -- younger than the entry
    have nI : sI.heap.get? a = none := by
      cases e : sI.heap.get? a with
      | none => rfl
      | some o =>
        have z := nb a o e (by rw [hs]; exact nfr)
        rw [bn] at z; cases z
    have n0 : X.s_0.heap.get? a = none := by
      cases e : X.s_0.heap.get? a with
      | none => rfl
      | some o =>
        obtain ⟨o', z⟩ := J.base.there a o e (by rw [hex]; exact fun z => nomatch z)
        rw [nI] at z; cases z
    have np : ∀ p ∈ X.pn ++ pins, p.1 ≠ a := fun p hp z => by
      have e := (J.pin p hp).1
      rw [z, nI] at e; cases e
    have S3 := inv_suite J3 a
    have leave : wCl X.K Wout D [] cls d σ' H' → wpAny (model X.prog X.w) X.A (handleBy (.ref a) X.env []) (SP X pins D) X.xe { s' with heap := h3 } := fun w => by
      refine wpAny_handleBy_nil ?_
      obtain ⟨k1, k2, k3, oe, vs, T, oT, ts', he, hz, hd, h1, hr⟩ := id fl3
      unfold PySem.passOn
      refine wpAny_bind (wpAny_field he hd h1 ?_)
      rw [if_neg (show ¬ ((Value.ref T == Value.none) = true) from by simp)]
      have fin : wpAny (model X.prog X.w) X.A (setFlight (.ref a) X.env.frame) (fun _ s4 => wpAny (model X.prog X.w) X.A (throw (.ref a) : Sem Flow) (SP X pins D) X.xe s4) X.xe { s' with heap := h3 } := by
        rw [hf]
        refine HandSPX.setFlight_upZ fl3 fun h4 hh4 up4 => wpAny_throw (tk _ _ ?_)
        exact ⟨a, B, sI, pins, σ', H', cls, d, rfl, J, nb, (up.trans up3).trans up4, .inr (.inr (by rw [hs]; exact hh4)), na, os, ag, w⟩
      first
        | exact wpAny_bind (wpAny_pure (wpAny_bind fin))
        | exact wpAny_bind fin
    have LT : PySem.W.Looks (model X.prog X.w) h3 (typeOf (.ref a)) cls := fun A Q E s k q => wpAny_typeOf_ref (k _ _ he3) (by rw [hz3.1]; exact q)
    have test : ∀ {x : Str} {c : Value} {np : Pos} {Q : Value → Shared → Prop} {E : Value → Shared → Prop}, Names X x c → Q c { s' with heap := h3 } → wpAny (model X.prog X.w) (X.A.mark (some (.ref a))) (eval (.Name x np) X.env) Q E { s' with heap := h3 } := fun {x c np Q E} hc q => by
      obtain ⟨hg, hdbg, hm | ⟨hm, hv, hnn⟩⟩ := hc
      · exact ld_glob (X := X.suite a (X.pn ++ pins)) S3 hg hm q hdbg
      · exact ld_blt (X := X.suite a (X.pn ++ pins)) S3 hg hm hv q hnn hdbg
    -- the exception told
    have told : ∀ {h4 : Heap} (fl4 : HandSPX.FlyingZ B (X.env :: X.outer) a (L2N.Zn cls d) h4) (up4 : h3.UpToSlots h4) {C d0 : Addr}, cls = .ref C → d = some d0 → Inv (X.suite a (X.pn ++ pins)) [] σ' (upd H' a (xo a C d0)) { s' with heap := h4 } := fun {h4} fl4 up4 {C d0} ec ed => by
      have J4 : Inv X pins σ' H' { s' with heap := h4 } := J.landed nb fl4.1 ((up.trans up3).trans up4) os ag
      obtain ⟨oe4, vs4, he4, hz4, hd4⟩ := fl4.there
      exact inv_suite (inv_adopt J4 n0 na nL he4 hd4 np (xo_ok he4 (hz4.1.trans ec) (hz4.2.1.trans ed) hd4 (hz4.2.2 _ hd4))) a
    have go : ∀ {hds' : List ExceptHandler} {l' : List Cl}, ClsOk X hds' l' → wCl X.K Wout D l' cls d σ' H' → wpAny (model X.prog X.w) X.A (handleBy (.ref a) X.env hds') (SP X pins D) X.xe { s' with heap := h3 } := by
      intro hds' l' hk
      induction hk with
      | nil => exact leave
      | @cons x c ts b₀ suite npp pos' hds2 l2 hc hsu r ih =>
        intro w
        obtain ⟨b, hb1, hyes, hno⟩ := w
        refine wpAny_handleBy_cons (codeAny_handlers_test ?_) (by intro q; cases q)
        refine test hc ((PySem.W.exm_one (M := model X.prog X.w) (J3.kIn) LT hb1).here ?_)
        cases b with
        | true =>
          refine codeAny_handlers_suite ?_
          refine HandSPX.lands_againZ fl3 fun h4 fl4 up4 => ?_
          obtain ⟨C, d0, ec, ed, hq⟩ := hyes rfl
          refine wpAny_mono ((hsu a cls d (X.pn ++ pins)).run [] _ _ _ _ (told fl4 up4 ec ed) (hq a na)) (fun f s6 hsp => ?_) (fun _ _ z => False.elim z)
          cases f with
          | next => obtain ⟨σ6, H6, S6, q6⟩ := hsp; exact ⟨_, _, inv_unsuite S6 ok, q6⟩
          | brk => obtain ⟨σ6, H6, S6, q6⟩ := hsp; exact ⟨_, _, inv_unsuite S6 ok, q6⟩
          | cont => obtain ⟨σ6, H6, S6, q6⟩ := hsp; exact ⟨_, _, inv_unsuite S6 ok, q6⟩
          | ret u => obtain ⟨v6, σ6, H6, S6, r6, q6⟩ := hsp; exact ⟨_, _, _, inv_unsuite S6 ok, r6, q6⟩
        | false => exact ih (hno rfl)
      | @consN x n c i ts b₀ suite npp pos' hds2 l2 hc hi hln hsu r ih =>
        intro w
        obtain ⟨b, hb1, hyes, hno⟩ := w
        refine wpAny_handleBy_cons (codeAny_handlers_test ?_) (by intro q; cases q)
        refine test hc ((PySem.W.exm_one (M := model X.prog X.w) (J3.kIn) LT hb1).here ?_)
        cases b with
        | true =>
          refine codeAny_handlers_suite_as ?_
          refine HandSPX.lands_againZ fl3 fun h4 fl4 up4 => ?_
          obtain ⟨C, d0, ec, ed, hq⟩ := hyes rfl
          refine store_ok (X := X.suite a (X.pn ++ pins)) (v := .ref a) (told fl4 up4 ec ed) hN hi (.inl hln) rfl (fun s5 S5 => ?_) (.inr hln)
          refine wpAny_mono ((hsu a cls d (X.pn ++ pins)).run [] s5 _ _ _ S5 (hq a na)) (fun f s6 hsp => ?_) (fun _ _ z => False.elim z)
          have end_ : ∀ {σ6 : L2.St} {H6 : Hp} {Q : Shared → Prop}, Inv (X.suite a (X.pn ++ pins)) [] σ6 H6 s6 → (∀ s7, Inv X pins (σ6.set i none) H6 s7 → Q s7) →
              wpAny (model X.prog X.w) X.A (do bindName X.env n .none; unbindBehindTheSuite X.env n pos') (fun _ s7 => Q s7) X.xe s6 := fun {σ6 H6 Q} S6 hq => gone_ok (inv_unsuite S6 ok) hN hi hln hq
          cases f with
          | next => obtain ⟨σ6, H6, S6, q6⟩ := hsp; exact end_ S6 fun s7 J7 => ⟨_, _, J7, q6⟩
          | brk => obtain ⟨σ6, H6, S6, q6⟩ := hsp; exact end_ S6 fun s7 J7 => ⟨_, _, J7, q6⟩
          | cont => obtain ⟨σ6, H6, S6, q6⟩ := hsp; exact end_ S6 fun s7 J7 => ⟨_, _, J7, q6⟩
          | ret u => obtain ⟨v6, σ6, H6, S6, r6, q6⟩ := hsp; exact end_ S6 fun s7 J7 => ⟨_, _, _, J7, r6, q6⟩
        | false => exact ih (hno rfl)
    exact go hh w
  · cases f with
    | next => obtain ⟨σ', H', J', q⟩ := hsp; exact wpAny_execs_nil ⟨σ', H', J'.ofTry ok, q⟩
    | brk => obtain ⟨σ', H', J', q⟩ := hsp; exact ⟨σ', H', J'.ofTry ok, q⟩
    | cont => obtain ⟨σ', H', J', q⟩ := hsp; exact ⟨σ', H', J'.ofTry ok, q⟩
    | ret u => obtain ⟨v, σ', H', J', r, q⟩ := hsp; exact ⟨v, σ', H', J'.ofTry ok, r, q⟩
end
end Dd

set_option Elab.async false
set_option linter.all false
set_option maxRecDepth 100000
set_option maxHeartbeats 4000000
/-! Exceptions over data: C(x), raise C(x), e.f, isinstance(e, C), try. -/
namespace Dd
open PySem PySem.Spec PyProof.Rows L2

section
variable {X : Cx} {W : WX} {k : Nat}
/-- the two objects of a made exception -/
theorem made_ok {K : PySem.W.Frag} {F : Hp} {ρ : List Addr} {st : Sto} {σ : L2.St} {H : Hp} {Q : VK} {c f : Str} {x : PyData} {y : V} {a d : Addr} (R : Rel K F ρ st H) (i : DR K F y x) (na : H a = none) (nd : H d = none) (ne : d ≠ a)
    (p : Post K W F ρ σ H (IR K) Q (.ok (.e c f x) st)) : Q (.ref a) (upd (upd H d (.xd [(f, y)])) a (xo a (He.ga K c) d)) := by
  have ev1 := Evo.new (o := .xd [(f, y)]) R nd
  have R1 := R.new (o := .xd [(f, y)]) nd
  have na1 : (upd H d (.xd [(f, y)])) a = none := by rw [upd_ne (Ne.symm ne)]; exact na
  have ev2 := Evo.new (o := xo a (He.ga K c) d) R1 na1
  have R2 := R1.new (o := xo a (He.ga K c) d) na1
  refine p _ _ _ _ (ev1.trans ev2) R2 (.e ⟨a, rfl, d, y, upd_same, ?_, i.mono (ev1.fr.trans ev2.fr)⟩)
  rw [upd_ne ne, upd_same]
def mXv (c f : Str) (m : ME) : ME := fun env st => (m env st).bind fun u st => match u with
  | .d x => .ok (.e c f x) st
  | _ => .bad
theorem de_xv {x f : Str} {e : Expr} {m : ME} {p pos : Pos} (C : Ctx X W k) (T : XcF X.prog X.w X.K X.mg X.base x f) (hk : 2 ≤ k) (hg : Gl X x) (he : DE X W e m)
    (hdb : (x == ("__debug__" : Str)) = false := by decide) (hs : starEach [e] X.env = (false, eval e X.env) :: starEach [] X.env := by rfl) : DE X W (.Call (.Name x p) [e] [] pos) (mXv x f m) := by
  refine PE.weak (pe_xv T (C.room.mono hk) hg he hdb hs) ?_
  rintro σ H Q ⟨F, ρ, st, env, ⟨R, E⟩, p⟩
  refine ⟨F, ρ, st, env, ⟨R, E⟩, Post.bind p fun u st1 y F1 ρ1 H1 _ ev R1 i1 p1 => ?_⟩
  split at p1
  · intro a d na nd ne
    cases i1 with
    | d i1 => exact made_ok R1 i1 na nd ne p1
  · exact p1.elim
def mRaise (c f : Str) (m : ME) : MS := fun env st => (m env st).thenS env fun u st => match u with
  | .d x => .ex ⟨c, f, x⟩ env st
  | _ => .bad
theorem ds_raise {x f : Str} {e : Expr} {m : ME} {p pos pos' : Pos} (C : Ctx X W k) (T : XcF X.prog X.w X.K X.mg X.base x f) (hk : 2 ≤ k) (hg : Gl X x) (he : DE X W e m)
    (hdb : (x == ("__debug__" : Str)) = false := by decide) (hs : starEach [e] X.env = (false, eval e X.env) :: starEach [] X.env := by rfl) : DS X W (.Raise (some (.Call (.Name x p) [e] [] pos)) none pos') (mRaise x f m) := by
  refine PS.weak (L2N.ps_raise C.calm C.tk (pmk_x T (C.room.mono hk) hg he hdb hs)) ?_
  rintro D σ H ⟨F, ρ, st, env, ⟨R, E⟩, p⟩
  refine ⟨F, ρ, st, env, ⟨R, E⟩, PostS.bind E p fun u st1 y F1 ρ1 H1 _ ev R1 i1 p1 => ?_⟩
  split at p1
  · intro d nd
    cases i1 with
    | d i1 =>
      have ev1 := Evo.new (o := .xd [(f, y)]) R1 nd
      exact p1 _ _ σ _ _ _ ev1 ⟨R1.new nd, (E.mono ev.fr ev.pre).mono ev1.fr ev1.pre⟩ ⟨rfl, d, y, rfl, upd_same, i1.mono ev1.fr⟩
  · exact p1.elim
/-- the own exception classes and their fields -/
def XcAll (K : PySem.W.Frag) (xs : List (Str × Str)) : Prop := ∀ c f, (c, f) ∈ xs → XcC K (He.ga K c) f
def excOf : U → Option (Str × Str × PyData)
  | .e c f x => some (c, f, x)
  | .x _ c f x => some (c, f, x)
  | _ => none
theorem excOf_ok {K : PySem.W.Frag} {F : Hp} {ρ : List Addr} {v : V} {u : U} {c f : Str} {x : PyData} (i : IR K F ρ v u) (h : excOf u = some (c, f, x)) : ∃ a, v = .ref a ∧ XA K F a c f x := by
  cases i with
  | e i =>
    cases h
    obtain ⟨a, e, h⟩ := i
    exact ⟨a, e, h⟩
  | x i => cases h; exact ⟨_, rfl, i⟩
  | _ => cases h
def mXat (xs : List (Str × Str)) (n : Str) (m : ME) : ME := fun env st => (m env st).bind fun u st => match excOf u with
  | some (c, f, x) => if f = n ∧ (c, f) ∈ xs then .ok (.d x) st else .bad
  | none => .bad
theorem de_xat {e : Expr} {m : ME} {pos : Pos} {n : Str} {xs : List (Str × Str)} (hx : XcAll X.K xs) (he : DE X W e m) (hb : attributeBase e n X.env (eval e X.env) = eval e X.env := by rfl) : DE X W (.Attribute e n pos) (mXat xs n m) := by
  refine PE.weak (pe_xat he hb) ?_
  rintro σ H Q ⟨F, ρ, st, env, ⟨R, E⟩, p⟩
  refine ⟨F, ρ, st, env, ⟨R, E⟩, Post.bind p fun u st1 y F1 ρ1 H1 _ ev R1 i1 p1 => ?_⟩
  split at p1
  · rename_i c f x h
    split at p1
    · rename_i hc
      obtain ⟨rfl, hm⟩ := hc
      obtain ⟨a, rfl, dd, w, h1, h2, h3⟩ := excOf_ok i1 h
      exact ⟨a, _, dd, _, w, rfl, hx c f hm, R1.sub _ _ h1, R1.sub _ _ h2, by simp [List.lookup], p1.ok R1 (.d h3)⟩
    · exact p1.elim
  · exact p1.elim
/-- isinstance(e, C) -/
def IsTab (K : PySem.W.Frag) (cv : Value) (tb : List ((Str × Str) × Bool)) : Prop := ∀ c f b, ((c, f), b) ∈ tb → XcC K (He.ga K c) f ∧ PySem.W.kitOne K (.ref (He.ga K c)) cv = some b
def mIsX (tb : List ((Str × Str) × Bool)) (m : ME) : ME := fun env st => (m env st).bind fun u st => match excOf u with
  | some (c, f, _) => match tb.lookup (c, f) with
    | some b => .ok (.d (.bool b)) st
    | none => .bad
  | none => .bad
theorem lookup_mem' {α β : Type} [BEq α] [LawfulBEq α] {a : α} {b : β} : ∀ {l : List (α × β)}, l.lookup a = some b → (a, b) ∈ l
  | [], h => by cases h
  | (a', b') :: r, h => by
    rw [List.lookup_cons] at h
    split at h
    · rename_i e
      cases h
      rw [eq_of_beq e]
      exact List.mem_cons_self ..
    · exact List.mem_cons_of_mem _ (lookup_mem' h)
theorem de_isX {a : Expr} {D : Str} {v : V} {cv : Value} {p p2 pos : Pos} {m : ME} {tb : List ((Str × Str) × Bool)} (hg : Gl X "isinstance") (hm : X.mg "isinstance" = none) (hD : PE X (.Name D p2) (tC v)) (hcv : ∀ u, RelV v u → u = cv) (ht : IsTab X.K cv tb) (ha : DE X W a m)
    (hs : starEach [a, .Name D p2] X.env = (false, eval a X.env) :: starEach [.Name D p2] X.env := by rfl) (hs2 : starEach [.Name D p2] X.env = (false, eval (.Name D p2) X.env) :: starEach [] X.env := by rfl) (hpl : (backTo pos (starEach [.Name D p2] X.env)).any (·.1) = false := by rfl) :
    DE X W (.Call (.Name "isinstance" p) [a, .Name D p2] [] pos) (mIsX tb m) := by
  refine PE.weak (pe_callB call_isX hg hm (by decide +kernel) (pa_cons ha (pa_cons hD pa_nil hs2) hs) (by decide) (by decide) hs hpl) ?_
  rintro σ H Q ⟨F, ρ, st, env, ⟨R, E⟩, p⟩
  refine ⟨F, ρ, st, env, ⟨R, E⟩, Post.bind p fun u st1 x F1 ρ1 H1 _ ev R1 i1 p1 => ?_⟩
  split at p1
  · rename_i c f z h
    split at p1
    · rename_i b hb
      obtain ⟨a, rfl, dd, w, h1, h2, h3⟩ := excOf_ok i1 h
      obtain ⟨t1, t2⟩ := ht c f b (lookup_mem' hb)
      exact ⟨a, _, dd, f, _, v, cv, b, rfl, hcv, t1, R1.sub _ _ h1, R1.sub _ _ h2, t2, p1.ok R1 (.d (.bl _))⟩
    · exact p1.elim
  · exact p1.elim
end
/-! ### try -/
section
open Classical
/-- what is the same whatever the address -/
noncomputable def common (f : Addr → SO) : SO := if h : ∃ o, ∀ a, f a = o then h.choose else .bad
theorem common_eq {f : Addr → SO} {o : SO} (h : ∀ a, f a = o) : common f = o := by
  have e : ∃ o, ∀ a, f a = o := ⟨o, h⟩
  unfold common
  rw [dif_pos e]
  exact (e.choose_spec 0).symm.trans (h 0)
theorem common_at {f : Addr → SO} (h : common f ≠ .bad) (a : Addr) : f a = common f := by
  unfold common at h ⊢
  by_cases e : ∃ o, ∀ a, f a = o
  · rw [dif_pos e]; exact e.choose_spec a
  · rw [dif_neg e] at h; exact absurd rfl h
end
def finO (i : Option Nat) : SO → SO
  | .nx env st => .nx (match i with | none => env | some i => env.set i none) st
  | .bk env st => .bk (match i with | none => env | some i => env.set i none) st
  | .ct env st => .ct (match i with | none => env | some i => env.set i none) st
  | .rt u st => .rt u st
  | _ => .bad
def slO (i : Option Nat) (u : U) (env : En) : En := match i with
  | none => env
  | some i => env.set i (some u)
structure MCl where
  test : List (Str × Bool)
  i : Option Nat
  ms : Addr → MS
noncomputable def mHdl : List MCl → XD → En → Sto → SO
  | [], x, env, st => .ex x env st
  | c :: r, x, env, st => match c.test.lookup x.cls with
    | some true => common fun a => finO c.i (c.ms a (slO c.i (.x a x.cls x.fld x.val) env) st)
    | some false => mHdl r x env st
    | none => .bad
noncomputable def mTry (b : MS) (l : List MCl) : MS := fun env st => match b env st with
  | .ex x env' st' => mHdl l x env' st'
  | o => o
theorem EnR.unset {K : PySem.W.Frag} {F : Hp} {ρ : List Addr} {σ : L2.St} {env : En} (i : Nat) (E : EnR K F ρ σ env) : EnR K F ρ (σ.set i none) (env.set i none) := by
  refine ⟨by simp [E.1], fun j w h => ?_⟩
  by_cases e : i = j
  · subst e
    by_cases hi : i < env.length
    · rw [List.getElem?_set_self hi] at h; cases h
    · rw [List.getElem?_eq_none (by simpa using hi)] at h; cases h
  · rw [List.getElem?_set_ne e] at h
    obtain ⟨x, h1, h2⟩ := E.2 j w h
    exact ⟨x, by rw [List.getElem?_set_ne e]; exact h1, h2⟩
/-- the clauses over data -/
inductive DCls (X : Cx) : List ExceptHandler → List MCl → List Cl → Prop
  | nil : DCls X [] [] []
  | cons {x : Str} {c : Value} {tt : List (Str × Bool)} {ms : Addr → MS} {b₀ : Stmt} {suite : List Stmt} {np pos' : Pos} {hds : List ExceptHandler} {l : List MCl} {cl : List Cl} (hc : Names X x c) (ht : ∀ y b, (y, b) ∈ tt → PySem.W.exmOne X.K (.ref (He.ga X.K y)) c = some b)
      (hsu : ∀ (a : Addr) (pn : List (Addr × Obj)), DSs (X.suite a pn) WN (b₀ :: suite) (ms a)) (r : DCls X hds l cl) : DCls X (.ExceptHandler (some (.Name x np)) none (b₀ :: suite) pos' :: hds) (⟨tt, none, ms⟩ :: l) (⟨c, none, fun a _ _ => tS X.K WN (ms a)⟩ :: cl)
  | consN {x n : Str} {c : Value} {i : Nat} {tt : List (Str × Bool)} {ms : Addr → MS} {b₀ : Stmt} {suite : List Stmt} {np pos' : Pos} {hds : List ExceptHandler} {l : List MCl} {cl : List Cl} (hc : Names X x c) (ht : ∀ y b, (y, b) ∈ tt → PySem.W.exmOne X.K (.ref (He.ga X.K y)) c = some b)
      (hi : X.N[i]? = some n) (hln : X.env.kindOf n = some .local) (hsu : ∀ (a : Addr) (pn : List (Addr × Obj)), DSs (X.suite a pn) WN (b₀ :: suite) (ms a)) (r : DCls X hds l cl) :
      DCls X (.ExceptHandler (some (.Name x np)) (some n) (b₀ :: suite) pos' :: hds) (⟨tt, some i, ms⟩ :: l) (⟨c, some i, fun a _ _ => tS X.K WN (ms a)⟩ :: cl)
theorem DCls.ok {X : Cx} {hds : List ExceptHandler} {l : List MCl} {cl : List Cl} (h : DCls X hds l cl) : ClsOk X hds cl := by
  induction h with
  | nil => exact .nil
  | cons hc ht hsu _ ih => exact .cons hc (fun a _ _ pn => hsu a pn) ih
  | consN hc ht hi hln hsu _ ih => exact .consN hc hi hln (fun a _ _ pn => hsu a pn) ih
/-- one suite's end -/
theorem suite_go {K : PySem.W.Frag} {Wout : WX} {F : Hp} {ρ : List Addr} {st : Sto} {env : En} {σ : L2.St} {H : Hp} {D : Ends} {i : Option Nat} {ms : Addr → MS} {a C d0 : Addr} {x : XD} {w : V} (g : Go K F ρ st env σ H) (na : H a = none) (eC : C = He.ga K x.cls) (hd : F d0 = some (.xd [(x.fld, w)])) (hw : DR K F w x.val)
    (p : PostS K Wout F ρ H D (finO i (ms a (slO i (.x a x.cls x.fld x.val) env) st))) : tS K WN (ms a) (Cl.fin i D) (Cl.sl i a σ) (upd H a (xo a C d0)) := by
  subst eC
  have ev := Evo.new (o := xo a (He.ga K x.cls) d0) g.1 na
  have R1 := g.1.new (o := xo a (He.ga K x.cls) d0) na
  have nF : F a = none := by
    cases e : F a with
    | none => rfl
    | some o => rw [g.1.sub _ _ e] at na; cases na
  have i1 : IR K (upd F a (xo a (He.ga K x.cls) d0)) ρ (.ref a) (.x a x.cls x.fld x.val) := .x ⟨d0, w, upd_same, ev.fr _ _ hd, hw.mono ev.fr⟩
  have E1 : EnR K (upd F a (xo a (He.ga K x.cls) d0)) ρ (Cl.sl i a σ) (slO i (.x a x.cls x.fld x.val) env) := by
    cases i with
    | none => exact g.2.mono ev.fr ev.pre
    | some i => exact (g.2.mono ev.fr ev.pre).set i1
  refine ⟨_, ρ, st, _, ⟨R1, E1⟩, ?_⟩
  have p1 := PostS.step ev p
  cases e : ms a (slO i (.x a x.cls x.fld x.val) env) st with
  | nx env' st' =>
    rw [e] at p1
    intro σ' F' ρ' H' ev' g'
    cases i with
    | none => exact p1 σ' F' ρ' H' ev' g'
    | some i => exact p1 _ F' ρ' H' ev' ⟨g'.1, g'.2.unset i⟩
  | bk env' st' =>
    rw [e] at p1
    intro σ' F' ρ' H' ev' g'
    cases i with
    | none => exact p1 σ' F' ρ' H' ev' g'
    | some i => exact p1 _ F' ρ' H' ev' ⟨g'.1, g'.2.unset i⟩
  | ct env' st' =>
    rw [e] at p1
    intro σ' F' ρ' H' ev' g'
    cases i with
    | none => exact p1 σ' F' ρ' H' ev' g'
    | some i => exact p1 _ F' ρ' H' ev' ⟨g'.1, g'.2.unset i⟩
  | rt u st' =>
    rw [e] at p1
    cases i with
    | none => exact p1
    | some i => exact p1
  | ex y env' st' => rw [e] at p1; exact p1.elim
  | bad => rw [e] at p1; exact p1.elim
theorem hdl_go {X : Cx} {Wout : WX} {hds : List ExceptHandler} {l : List MCl} {cl : List Cl} (h : DCls X hds l cl) {F : Hp} {ρ : List Addr} {st : Sto} {env : En} {σ : L2.St} {H : Hp} {D : Ends} {x : XD} {cls : Value} {d : Option Addr} (g : Go X.K F ρ st env σ H) (xr : XR X.K F x cls d)
    (p : PostS X.K Wout F ρ H D (mHdl l x env st)) : wCl X.K Wout D cl cls d σ H := by
  induction h with
  | nil => exact p cls d σ F ρ H Evo.refl g xr
  | cons hc ht hsu r ih =>
    obtain ⟨ec, d0, w, ed, hd, hw⟩ := id xr
    unfold mHdl at p
    split at p
    · rename_i e
      refine ⟨true, by rw [ec]; exact ht _ _ (lookup_mem' e), fun _ => ⟨_, d0, ec, ed, fun a na => ?_⟩, fun z => (nomatch z)⟩
      have nb : common (fun a => finO none (_ )) ≠ .bad := fun z => by rw [z] at p; exact p.elim
      rw [← common_at nb a] at p
      exact suite_go (i := none) g na rfl hd hw p
    · rename_i e
      exact ⟨false, by rw [ec]; exact ht _ _ (lookup_mem' e), fun z => (nomatch z), fun _ => ih p⟩
    · exact p.elim
  | consN hc ht hi hln hsu r ih =>
    obtain ⟨ec, d0, w, ed, hd, hw⟩ := id xr
    unfold mHdl at p
    split at p
    · rename_i e
      refine ⟨true, by rw [ec]; exact ht _ _ (lookup_mem' e), fun _ => ⟨_, d0, ec, ed, fun a na => ?_⟩, fun z => (nomatch z)⟩
      have nb : common (fun a => finO (some _) (_ )) ≠ .bad := fun z => by rw [z] at p; exact p.elim
      rw [← common_at nb a] at p
      exact suite_go (i := some _) g na rfl hd hw p
    · rename_i e
      exact ⟨false, by rw [ec]; exact ht _ _ (lookup_mem' e), fun z => (nomatch z), fun _ => ih p⟩
    · exact p.elim
section
variable {X : Cx} {W : WX} {k : Nat}
theorem Ctx.tr {X : Cx} {W : WX} {k : Nat} (C : Ctx X W k) {W' : WX} {pn : List (Addr × Obj)} {xe : Value → Shared → Prop} (tk : L2N.Takes (X.tr pn xe) W') : Ctx (X.tr pn xe) W' k := ⟨C.room, C.gd, tk, C.nd, C.calm, C.sys⟩
theorem ds_try {body : List Stmt} {h₀ : ExceptHandler} {hds : List ExceptHandler} {pos : Pos} {m : MS} {l : List MCl} {cl : List Cl} (C : Ctx X W k) (hex : X.ex = [] := by rfl) (hs : X.stack = X.env :: X.outer := by rfl) (hf : X.env.frame = some X.env.locals := by rfl)
    (hb : ∀ (W' : WX) (pn : List (Addr × Obj)) (xe : Value → Shared → Prop), Ctx (X.tr pn xe) W' k → PassesOwn (model X.prog X.w) X.A X.env xe → DSs (X.tr pn xe) W' body m) (hh : DCls X (h₀ :: hds) l cl) : DS X W (.Try body (h₀ :: hds) [] [] pos) (mTry m l) := by
  refine PS.weak (ps_tryD (tb := fun W' => tS X.K W' m) hex C.nd hs hf C.tk (fun W' pn xe tk hp => hb W' pn xe (C.tr tk) hp) hh.ok) ?_
  rintro D σ H ⟨F, ρ, st, env, g, p⟩
  refine ⟨F, ρ, st, env, g, ?_⟩
  unfold mTry at p
  cases e : m env st with
  | ex x env' st' =>
    rw [e] at p
    exact fun cls d σ' F' ρ' H' ev g' xr => hdl_go hh g' xr (PostS.step ev p)
  | nx _ _ => rw [e] at p; exact p
  | rt _ _ => rw [e] at p; exact p
  | bk _ _ => rw [e] at p; exact p
  | ct _ _ => rw [e] at p; exact p
  | bad => rw [e] at p; exact p
end
end Dd

set_option Elab.async false
set_option linter.all false
set_option maxRecDepth 100000
set_option maxHeartbeats 4000000
/-! While an exception is handled: defs called, a list comprehension over a list. -/
namespace Dd
open PySem PySem.Spec PyProof.Rows L2

/-! ### a list iterator's end -/
section
variable {prog : Program} {w : World} {A : Around} {E : Value → Shared → Prop} {s : Shared}
theorem next_list_end_hot {it l x1 : Addr} {i : Nat} {items : Array Value} {Q : Option Value → Shared → Prop} (hot : HotX.HotAt A x1 s.heap) (hx1 : x1 ≠ it) (hit : s.heap.IsListIter it l i) (hl : s.heap.IsList l items) (hx : items[i]? = none)
    (hQ : ∀ h', (∀ b o, b ≠ it → s.heap.get? b = some o → h'.get? b = some o) → Q none { s with heap := h' }) : wpAny (model prog w) A (pyNext (.ref it)) Q E s := by
  obtain ⟨o, ho, hc, hd⟩ := id hit
  obtain ⟨ol, hol, _, nl, hdl⟩ := hl
  obtain ⟨hh, o1, vs1, h1, d1, c1⟩ := hot
  unfold pyNext
  refine wpAny_bind (wpAny_attempt (wpAny_callSpecial?_slot (name := Str.ofString "__next__") hit.typeIs slot_listiter_next
    (wpAny_call_entry slot_listiter_next hit.typeIs entry_listiter_next ?_ (args_listiter_next _))))
  show wpAny _ _ (field (.ref it) 0 >>= _) _ _ s
  refine wpAny_bind (wpAny_field ho hd (x := .ref l) rfl ?_)
  show wpAny _ _ (if (Value.ref l == Value.none) = true then _ else _) _ _ s
  rw [if_neg (show ¬ ((Value.ref l == Value.none) = true) from Bool.false_ne_true)]
  show wpAny _ _ (field (.ref it) 1 >>= _) _ _ s
  refine wpAny_bind (wpAny_field ho hd (x := .int i 0) rfl ?_)
  show wpAny _ _ (seqItems? (.ref l) >>= _) _ _ s
  refine wpAny_bind (wpAny_seqItems hol hdl ?_)
  simp only [Int.toNat_natCast, hx]
  refine wpAny_bind (wpAny_rule (wpAny_bind (wpAny_setField ho hd (by simp) ?_)))
  show wpAny _ _ (newExc (.type "StopIteration") [] >>= _) _ _ _
  refine wpAny_bind ?_
  simp only [newExc, newTuple]
  refine wpAny_bind (wpAny_newObj_type ?_ (by size_fits))
  refine wpAny_bind (m := firstArgMember _ _) (wpAny_of_eq (a := Value.none) (by first | rfl | (simp only [firstArgMember]; rfl)) ?_)
  refine wpAny_newObj_type ?_ (by size_fits)
  have keep0 : ∀ {f : Obj → Obj} {b : Addr} {ob : Obj}, b ≠ it → s.heap.get? b = some ob → (s.heap.update it f).get? b = some ob := fun {f b ob} n e => (Heap.get?_update_other _ _ (Ne.symm n)).trans e
  refine HotX.raiseNew_hot ⟨hh, o1, vs1, Heap.get?_push_of_some _ (Heap.get?_push_of_some _ (keep0 hx1 h1)), d1, c1⟩ (Nat.ne_of_lt (Heap.lt_size (Heap.get?_push_of_some _ (keep0 hx1 h1)))) (Heap.get?_push_size _ rfl) rfl (by first | (simp; done) | (simp; omega) | (simp only [Array.size_append]; simp; omega)) ?_
  refine wpAny_bind (wpAny_isInstance (T := "StopIteration") (b := true) ⟨_, Heap.get?_update_self _ (Heap.get?_push_size _ rfl) rfl, rfl⟩ isSubtype_stop ?_)
  refine wpAny_pure (hQ _ fun b ob n e => ?_)
  rw [Heap.get?_update_other _ _ (Nat.ne_of_gt (Heap.lt_size (Heap.get?_push_of_some _ (keep0 n e))))]
  exact Heap.get?_push_of_some _ (Heap.get?_push_of_some _ (keep0 n e))
end
/-! ### the comprehension -/
section
variable {X : Cx}
/-- [elt for target in xs if ..] while the exception at x1 is handled -/
def tLcH (K : PySem.W.Frag) (x1 : Addr) (tl : TE) (g : TG) (tt : TT) (te : TE) (vs : List Nat) : TE := fun σ H Q => tl σ H fun x H1 => ∃ b, x = .ref b ∧ (∃ xs, SqL K H1 b xs) ∧ ∀ D, H1 D = none → ∃ W : Nat → Nat → Hp → Prop, (∃ m, W 0 m (upd H1 D (.lst []))) ∧ ∀ i m H, W i m H →
  ((Itl K b).stop i H ∧ (∃ C d, H x1 = some (xo x1 C d)) ∧ Q (.ref D) H) ∨ ((Itl K b).go i H ∧ ∃ Nx : Hp → Prop, (∀ H', Nx H' → ∃ m', m' < m ∧ W (i + 1) m' H') ∧ ∀ x H', (Itl K b).yld i H x H' → g x (wipe σ vs) H' fun σ2 H2 => wipe σ2 vs = wipe σ vs ∧ tt σ2 H2 fun b H3 =>
    if b = true then te σ2 H3 fun y H4 => ∃ acc, H4 D = some (.lst acc) ∧ acc.length < sizeLine ∧ Nx (upd H4 D (.lst (acc ++ [y]))) else Nx H3)
theorem pe_lcH {x1 : Addr} {elt tg iter : Expr} {ifs : List Expr} {scope : Scope} {own : List (Str × Nat)} {pos : Pos} {tl : TE} {g : TG} {tt : TT} {te : TE} (hot : X.A.handled = some (.ref x1)) (hN : X.N.Nodup) (hl : PE X iter tl) (ok : BlkOk X.N X.env.scope scope own)
    (hg : ∀ (s : Shared) (H : Hp) (C : Addr) (cl : List (Str × Addr)) (fp : List Addr), PG (X.blk s H scope (compEnvC scope cl C X.env) fp) tg g) (ht : ∀ (s : Shared) (H : Hp) (C : Addr) (cl : List (Str × Addr)) (fp : List Addr), PTs (X.blk s H scope (compEnvC scope cl C X.env) fp) ifs tt)
    (he : ∀ (s : Shared) (H : Hp) (C : Addr) (cl : List (Str × Addr)) (fp : List Addr), PE (X.blk s H scope (compEnvC scope cl C X.env) fp) elt te) (hs : ∀ x, foldedSetIterable iter X.env x = pure x := by intro _; rfl) :
    PE X (.ListComp elt [⟨tg, iter, ifs, 0⟩] scope pos) (tLcH X.K x1 tl g tt te (own.map (·.2))) := by
  refine ⟨fun pins s σ H Q I h => ?_⟩
  rw [eval_ListComp]
  have hfree : ∀ y ∈ scope.names, y.2 = .free → ∃ c, X.env.cells.lookup y.1 = some c := fun y hy e => by
    rcases ok.free y hy e with k | k
    · exact I.ok.has _ (.inl k)
    · exact I.ok.has _ (.inr k)
  refine wpAny_comprehension_free (use := _) rfl hs (closure_ok hfree) ok.kind (fun y hy e => by rw [ok.uniq y hy, e]) (thn (hl.run pins s σ H _ I h) fun xv s1 hx => ?_)
  obtain ⟨x, H1, I1, rx, b, ex, ⟨xs0, hb0⟩, q⟩ := hx
  subst ex
  cases rx
  obtain ⟨its0, rv0, p0, hz0⟩ := I1.list hb0
  refine wpAny_pyIter_list p0.isList ?_
  generalize hit : s1.heap.objs.size = it
  have I2 : Inv X pins σ H1 { s1 with heap := s1.heap.push { cls := .type "list_iterator", data := .fields #[.ref b, Value.int 0 0] } } := I1.kept (t' := s1.toks) fun b o e => Heap.get?_push_of_some _ e
  have itn : H1 it = none := I1.hok.fresh (Nat.le_of_eq hit)
  have fit : FpOk X pins H1 it := I1.fpOk (Nat.le_of_eq hit) itn
  have sti : ({ s1 with heap := s1.heap.push { cls := .type "list_iterator", data := .fields #[.ref b, Value.int 0 0] } } : Shared).heap.IsListIter it b 0 := by
    rw [← hit]
    exact ⟨_, Heap.get?_push_size _ rfl, rfl, rfl⟩
  generalize ({ s1 with heap := s1.heap.push { cls := .type "list_iterator", data := .fields #[.ref b, Value.int 0 0] } } : Shared) = s2 at I2 sti ⊢
  refine wpAny_newObj_type (newEnv_comp ?_) (by show 0 ≤ sizeLine; decide)
  generalize hD : s2.heap.objs.size = D
  have hDn : H1 D = none := I2.hok.fresh (Nat.le_of_eq hD)
  obtain ⟨W, ⟨m0, w0⟩, turn⟩ := q D hDn
  have lit : it < s2.heap.objs.size := by obtain ⟨o, e, _⟩ := sti; exact Heap.lt_size e
  generalize hs3 : ({ s2 with heap := s2.heap.push { cls := .type "list", data := .seq ([] : List Value).toArray } } : Shared) = s3
  have I3 : Inv X pins σ (upd H1 D (.lst [])) s3 := by
    rw [← hs3]
    refine I2.laid (t' := s2.toks) (fun b o e => Heap.get?_push_of_some _ e) (Nat.le_of_eq hD) ⟨Nat.zero_le _, [], 0, .nil, ?_⟩
    rw [← hD]
    exact Heap.get?_push_size _ rfl
  have h3 : s3.heap = s2.heap.push { cls := .type "list", data := .seq ([] : List Value).toArray } := by rw [← hs3]
  have f3 : ∀ c ∈ [it], FpOk X pins (upd H1 D (.lst [])) c ∧ c < s3.heap.objs.size := fun c hc => by
    obtain rfl : c = it := by simpa using hc
    refine ⟨⟨?_, fit.2⟩, by rw [h3, Heap.size_push]; exact Nat.lt_succ_of_lt lit⟩
    rw [upd_ne (by rw [← hD]; exact Nat.ne_of_lt lit)]
    exact itn
  have st3 : s3.heap.IsListIter it b 0 := sti.at fun o e => by rw [h3]; exact Heap.get?_push_of_some _ e
  have I4 := block_start I3 ok hN f3
  have pg := hg s3 (upd H1 D (.lst [])) s3.heap.objs.size (cellsFrom (s3.heap.objs.size + 1) scope.names (cloFrom X.env.cells scope.names [])) [it]
  have pt := ht s3 (upd H1 D (.lst [])) s3.heap.objs.size (cellsFrom (s3.heap.objs.size + 1) scope.names (cloFrom X.env.cells scope.names [])) [it]
  have pe := he s3 (upd H1 D (.lst [])) s3.heap.objs.size (cellsFrom (s3.heap.objs.size + 1) scope.names (cloFrom X.env.cells scope.names [])) [it]
  show codeAny _ _ (.compStart (.ListComp elt [⟨tg, iter, ifs, 0⟩] scope pos) 0 (.ref it) (.ref D) (compEnvC scope (cellsFrom (s3.heap.objs.size + 1) scope.names (cloFrom X.env.cells scope.names [])) s3.heap.objs.size X.env)) _ { s3 with heap := pushCells (s3.heap.push { cls := .type "dict", data := .dict #[] }) scope.names }
  have nit : (upd H1 D (.lst [])) it = none := (f3 it (by simp)).1.1
  generalize hce : compEnvC scope (cellsFrom (s3.heap.objs.size + 1) scope.names (cloFrom X.env.cells scope.names [])) s3.heap.objs.size X.env = ce at I4 pg pt pe ⊢
  have cL : ce.locals = s3.heap.objs.size := by subst hce; rfl
  generalize hH3 : upd H1 D (.lst []) = H3 at I3 I4 pg pt pe w0 nit f3
  generalize hs4 : ({ s3 with heap := pushCells (s3.heap.push { cls := .type "dict", data := .dict #[] }) scope.names } : Shared) = s4 at I4 ⊢
  have st4 : s4.heap.IsListIter it b 0 := st3.at fun o e => by rw [← hs4]; exact pushCells_keeps _ _ _ _ (Heap.get?_push_of_some _ e)
  have stat : ∀ {σ' : L2.St} {H' : Hp} {s' : Shared}, Inv (X.blk s3 H3 scope ce [it]) [] σ' H' s' → H' it = none → FpOk (X.blk s3 H3 scope ce [it]) [] H' it := fun {σ' H' s'} I' hn =>
    ⟨hn, (I'.ok.exf it (by simp)).1, I'.ok.exfs it (by simp), .inl (by simp), fun x c e => (I'.ok.exf it (by simp)).2 x c e, fun p hp => absurd (show p ∈ ([] : List (Addr × Obj)) ++ [] from hp) (by simp)⟩
  refine (fun loop => codeAny_compStart_list loop (wpAny_pyIter_listiter st4 loop)) ?_
  refine compLoop_any (fun n s' => ∃ i H', Inv (X.blk s3 H3 scope ce [it]) [] (wipe σ (own.map (·.2))) H' s' ∧ s'.heap.IsListIter it b i ∧ H' it = none ∧ W i n H') ?_ m0 ⟨0, H3, I4, st4, nit, w0⟩
  rintro n s5 ⟨i, H5, I5, st5, n5, w5⟩
  obtain ⟨f0, f1, f2, f4, f5, f6⟩ := stat I5 n5
  rcases turn i n H5 w5 with ⟨⟨xs, hq, hx⟩, ⟨C, d, hx1⟩, qq⟩ | ⟨⟨xs, x, hq, hx⟩, Nx, hNx, step⟩
  · obtain ⟨its, rv, p, hz⟩ := I5.list hq
    obtain ⟨oe, vs, h1, _, _, d1, c1⟩ := xo_at I5.hok hx1
    have hl := rv.length
    have ne1 : x1 ≠ it := fun z => by rw [z, n5] at hx1; cases hx1
    refine next_list_end_hot (A := X.A) ⟨hot, oe, vs, h1, d1, c1⟩ ne1 st5 p.isList (by simp; omega) fun h' eb => ?_
    have I6 : Inv (X.blk s3 H3 scope ce [it]) [] (wipe σ (own.map (·.2))) H5 { s5 with heap := h' } := I5.turned (t' := s5.toks) (fun b o hb e => eb b o hb e) f0 f1 f4 f5 f6
    have I7 : Inv X pins σ H5 { s5 with heap := h' } := I3.call' (ch := [it]) I6.os I6.base I6.hok I6.bare fun c hc => ⟨(f3 c hc).1.2.2.2.1, (f3 c hc).1.2.1, (f3 c hc).1.2.2.2.2.1, (f3 c hc).1.2.2.2.2.2⟩
    have nC : H5 s3.heap.objs.size = none := by
      have z : H5 ce.locals = none := I6.free
      rw [cL] at z
      exact z
    obtain ⟨m, hn, _⟩ := I6.loc
    have hn : h'.Ns ce.locals m := hn
    rw [cL] at hn
    obtain ⟨g0, g1, g2, g3, g4, g5⟩ := I3.fpOk (Nat.le_refl _) nC
    exact ⟨m, hn, fun h'' sb => ⟨.ref D, H5, I7.turned (t' := s5.toks) (fun b o hb e => (sb.2 b hb).trans e) g0 g1 g3 g4 g5, rfl, qq⟩⟩
  · obtain ⟨its, rv, p, hz⟩ := I5.list hq
    obtain ⟨u, hu, ru⟩ := rv.get hx
    refine wpAny_pyNext_list_item st5 p.isList (x := u) (by simpa using hu) fun h' st6 sb => ?_
    have I6 : Inv (X.blk s3 H3 scope ce [it]) [] (wipe σ (own.map (·.2))) H5 { s5 with heap := h' } := I5.turned (t' := s5.toks) (fun b o hb e => (sb.2 b hb).trans e) f0 f1 f4 f5 f6
    obtain ⟨oi, ei, ci, di⟩ := id st6
    refine go_of (s := { s5 with heap := h' }) ei ci di (by decide) ?_
    have I7 := I6.pinned (fp := [it]) (fun c hc => by
      obtain rfl : c = it := (by simpa using hc)
      exact stat I6 n5) (fun c hc => by
      obtain rfl : c = it := (by simpa using hc)
      exact ⟨oi, ei, fun v z => by rw [di] at z; cases z⟩)
    refine thnF (pg.run _ { s5 with heap := h' } _ H5 x u _ I7 ru (step x H5 ⟨rfl, fun ys hy => by rw [I5.list_inj hy hq]; exact hx⟩)) fun _ s8 ⟨σ8, H8, I8, hw8, q8⟩ => ?_
    refine thnF (pt.run _ s8 σ8 H8 _ I8 q8) fun bb s9 ⟨H9, I9, q9⟩ => ?_
    have fin : ∀ {s' : Shared} {H' : Hp}, Inv (X.blk s3 H3 scope ce [it]) ([] ++ pinsAt [it] h') σ8 H' s' → Nx H' → ∃ m, m < n ∧ ∃ i H', Inv (X.blk s3 H3 scope ce [it]) [] (wipe σ (own.map (·.2))) H' s' ∧ s'.heap.IsListIter it b i ∧ H' it = none ∧ W i m H' := fun {s' H'} I' nx => by
      obtain ⟨m', hm, w'⟩ := hNx H' nx
      have z := I'.pin (it, oi) (List.mem_append_right _ (List.mem_append_right _ (mem_pinsAt (by simp) ei)))
      have hl : (wipe σ (own.map (·.2))).length = σ8.length := by rw [← hw8, wipe_length]
      refine ⟨m', hm, i + 1, H', (I'.unpinned (pins := [])).weak hl (fun j v e => ?_), ⟨oi, z.1, ci, di⟩, z.2.1, w'⟩
      rw [← hw8] at e
      exact (wipe_some e).1
    cases bb with
    | false =>
      simp only [Bool.false_eq_true, if_false] at q9 ⊢
      exact fin I9 q9
    | true =>
      simp only [if_true] at q9 ⊢
      refine thnF (pe.run _ s9 σ8 H9 _ I9 q9) fun z s10 ⟨yv, H10, I10, r10, acc, hD10, hz10, nx⟩ => ?_
      exact app_ok (X := X.blk s3 H3 scope ce [it]) I10 hD10 hz10 r10 fun s11 I11 => fin I11 nx
end
end Dd

set_option Elab.async false
set_option linter.all false
set_option maxRecDepth 100000
set_option maxHeartbeats 4000000
/-! Defs called within an except suite, over data. -/
namespace Dd
open PySem PySem.Spec PyProof.Rows L2 L2H

structure CtxH (X : Cx) (a : Addr) (k : Nat) : Prop where
  room : RoomH k X.A
  gd : X.A.guards = some []
  ha : X.A.handled = some (.ref a)
  nd : X.N.Nodup
  sys : ∃ o, X.base.get? sysModules = some o
theorem CtxH.hu {X : Cx} {a : Addr} {k : Nat} (C : CtxH X a k) : X.A.units + 64 < cLine := by have := C.room.un; omega
theorem Ctx.suite {X : Cx} {W : WX} {k : Nat} (C : Ctx X W k) (a : Addr) (pn : List (Addr × Obj)) : CtxH (X.suite a pn) a k := ⟨⟨C.room.dp, C.room.un⟩, C.gd, rfl, C.nd, C.sys⟩
/-- the context of a def's body, called there -/
abbrev cxC (P : Program) (w : World) (K : PySem.W.Frag) (mg : Str → Option Value) (base : Heap) (N : List Str) (qual : Str) (scope : Scope) (f : Addr) (cd : Value) (A : Around) (outer : List Env) (s : Shared) (H : Hp) (E : XK) : Cx :=
  { cxOf (L2N.CX P w) P w K mg base N qual scope f cd A outer s H E with calm := false }
theorem inv_startC {P : Program} {w : World} {K : PySem.W.Frag} {mg : Str → Option Value} {base : Heap} {N ps : List Str} {qual : Str} {scope : Scope} {f : Addr} {cd : Value} {A : Around} {outer : List Env} {s s1 : Shared} {H : Hp} {E : XK} {us : List Value} {vs : List V}
    (S : FnScope N ps scope) (e0 : Env0 P w K mg base A outer s H) (hl : vs.length = ps.length) (r : Vals vs us)
    (x : InCallC s s.heap.objs.size (bindL (envOfC qual scope s.heap.objs.size f cd).kindOf (ps.zip us) fun _ => none) (cellsFrom (s.heap.objs.size + 1) scope.names []) (bindC (envOfC qual scope s.heap.objs.size f cd).kindOf (ps.zip us) fun _ => none) s1) :
    Inv (cxC P w K mg base N qual scope f cd A outer s H E) [] (L2.start N vs) H s1 := by
  have I := inv_start (CX := L2N.CX P w) (A := { A with handled := none }) (E := E) S rfl ⟨e0.frames, e0.mod, e0.bs, e0.bsz, e0.funs, e0.frf, e0.hok, e0.bare⟩ hl r x
  exact ⟨⟨I.ok.mod, I.ok.kind, I.ok.glob, I.ok.blt, I.ok.above, I.ok.inj, I.ok.has, I.ok.cab, (fun z => Bool.noConfusion (show false = true from z)), Around.frames_deeper e0.frames, I.ok.stk, I.ok.exf, I.ok.bs, I.ok.bsz, I.ok.noex, I.ok.exfs, I.ok.funs, I.ok.frf⟩,
    I.os, I.bare, I.base, I.loc, I.cell, I.free, I.freeC, I.pin, I.hok, I.len⟩
structure RunH (P : Program) (w : World) (K : PySem.W.Frag) (mg : Str → Option Value) (base : Heap) (k : Nat) (f : Addr) (fd : FuncData) (ps : List Str) (m : Addr → MF) : Prop where
  run : ∀ (A : Around) (outer : List Env) (s : Shared) (H : Hp) (args : Args) (us : List Value) (vs : List V) (Q : VK) (E : XK) (a : Addr), RoomH k A → A.guards = some [] → A.handled = some (.ref a) → Env0 P w K mg base A outer s H → BindsTo s fd args (ps.zip us) → Vals vs us → vs.length = ps.length → spG K (m a) vs H Q E →
    codeAny (model P w) A (.call (.ref f) args) (CR (L2N.CX P w) outer P w H s Q E) s
structure FgH (P : Program) (w : World) (K : PySem.W.Frag) (mg : Str → Option Value) (base : Heap) (k : Nat) (x : Str) (n : Nat) (m : Addr → MF) : Prop where
  ex : ∃ (f : Addr) (fd : FuncData) (ps : List Str), mg x = some (.ref f) ∧ PySem.W.keepIn K (.ref f) = true ∧ RunH P w K mg base k f fd ps m ∧ ps.length = n ∧ Binds K fd ps []
theorem runH_of {P : Program} {w : World} {K : PySem.W.Frag} {mg : Str → Option Value} {base : Heap} {k : Nat} {f : Addr} {name qual : Str} {params : Arguments} {body : List Stmt} {scope : Scope} {dV kV doc pm cdv ct oc : Value} {an od : Option Addr} {osl : Array (Option Value)} {N ps : List Str} {sm : Addr → MS}
    (lk : K.lookup f = some ⟨oc, od, .func (PySem.W.fnOf name qual params body scope dV kV doc pm an cdv ct), osl⟩) (hcd : PySem.W.codeIn K cdv qual = true) (S : FnScope N ps scope) (hsy : ∃ o, base.get? sysModules = some o)
    (hbody : ∀ (A : Around) (outer : List Env) (s : Shared) (H : Hp) (E : XK) (a : Addr), CtxH (cxC P w K mg base N qual scope f cdv A outer s H E) a k → DSs (cxC P w K mg base N qual scope f cdv A outer s H E) (WEx E) body (sm a)) :
    RunH P w K mg base (k + 1) f (PySem.W.fnOf name qual params body scope dV kV doc pm an cdv ct) ps (fun a => mFun N.length (sm a)) := by
  refine ⟨fun A outer s H args us vs Q E a hr hgd hha e0 hb r hl hsp => ?_⟩
  have KX : K.In s.heap := e0.mod.kin.keeps fun b o e => (e0.bs b o e).1
  have lim : s.heap.NoLimit := e0.mod.nolimit.keeps fun b o e => (e0.bs b o e).1
  have hkind : ∀ y ∈ ps.zip us, scope.names.lookup y.1 = some .local ∨ (scope.names.lookup y.1 = some .cell ∧ ((cellsFrom (s.heap.objs.size + 1) scope.names []).lookup y.1).isSome = true) := fun ⟨n, v⟩ hy => by
    rcases S.par n (List.of_mem_zip hy).1 with q | q
    · exact .inl q
    · exact .inr ⟨q, PySem.W.cellsFrom_some _ _ _ (.inl q)⟩
  refine codeAny_call_function hr.depth (KX _ _ lk) rfl S.co S.gen rfl (PySem.W.codeRec_of KX hcd) (hb _ _ _ _ ?_)
  refine wpAny_newFunctionEnv_cells S.kind hkind fun env he s1 x => ?_
  subst he
  refine ⟨lim.keeps x.toInCall.keep, codeAny_func ?_⟩
  have ht := hbody A outer s H E a ⟨hr.deeper _, hgd, hha, S.nd, hsy⟩
  have I : Inv (cxC P w K mg base N qual scope f cdv A outer s H E) [] (start N vs) H s1 := inv_startC S e0 hl r x
  obtain ⟨Fh, ρ, st, uu, R, i, p⟩ := hsp
  have hq : tS K (WEx E) (sm a) { nx := fun _ H' => Q .non H', rt := Q } (start N vs) H := by
    refine ⟨Fh, ρ, st, _, ⟨R, EnR.start N i⟩, ?_⟩
    unfold mFun at p
    cases e : sm a (uu.map some ++ List.replicate (N.length - uu.length) none) st with
    | nx env' st' => rw [e] at p; exact fun σ' F' ρ' H' ev g => p .non F' ρ' H' ev g.1 (.d .non)
    | rt u st' => rw [e] at p; exact p
    | ex x env' st' => rw [e] at p; exact fun c d σ' F' ρ' H' ev g xr => p c d F' ρ' H' ev g.1 xr
    | bk env' st' => rw [e] at p; exact p.elim
    | ct env' st' => rw [e] at p; exact p.elim
    | bad => rw [e] at p; exact p.elim
  refine wpAny_mono (ht.run [] s1 (start N vs) H _ I hq) (fun fl s' hs => ?_) fun e s' hs => hs
  have fin : ∀ {σ' : L2.St} {H' : Hp} {v : V} {u : Value}, Inv (cxC P w K mg base N qual scope f cdv A outer s H E) [] σ' H' s' → RelV v u → Q v H' → CE outer P w H s Q u s' :=
    fun {σ' H' v u} J rv q => ⟨v, H', J.os, J.bare, J.base, J.hok, rv, q⟩
  cases fl with
  | ret u => obtain ⟨v, σ', H', J, rv, q⟩ := hs; exact fin J rv q
  | next => obtain ⟨σ', H', J, q⟩ := hs; exact fin (v := V.non) (u := Value.none) J rfl q
  | brk => obtain ⟨_, _, _, q⟩ := hs; exact False.elim q
  | cont => obtain ⟨_, _, _, q⟩ := hs; exact False.elim q
theorem fgH_of {P : Program} {w : World} {K : PySem.W.Frag} {mg : Str → Option Value} {base : Heap} {k : Nat} {x qual : Str} {params : Arguments} {body : List Stmt} {scope : Scope} {f : Addr} {fd : FuncData} {N ps : List Str} {sm : Addr → MS} (F : FunD K x qual params body scope [] [] f fd) (hm : mg x = some (.ref f)) (S : FnScope N ps scope) (hsy : ∃ o, base.get? sysModules = some o)
    (hb : ∀ (kV doc pm : Value) (an : Option Addr) (cdv ct : Value) (us : List Value), us.length = ps.length → bindArgs (PySem.W.fnOf x qual params body scope .none kV doc pm an cdv ct) ⟨us, []⟩ = pure (ps.zip us))
    (hbody : ∀ (cdv : Value) (A : Around) (outer : List Env) (s : Shared) (H : Hp) (E : XK) (a : Addr), CtxH (cxC P w K mg base N qual scope f cdv A outer s H E) a k → DSs (cxC P w K mg base N qual scope f cdv A outer s H E) (WEx E) body (sm a)) : FgH P w K mg base (k + 1) x ps.length (fun a => mFun N.length (sm a)) := by
  have B := F.bindsN hb
  obtain ⟨oc, od, dV, kV, doc, pm, an, cdv, ct, osl, rfl, lk, hcd, _, _⟩ := F.ex
  exact ⟨f, _, ps, hm, F.kp, runH_of lk hcd S hsy (hbody cdv), rfl, B⟩
theorem FgH.mono {P : Program} {w : World} {K : PySem.W.Frag} {mg : Str → Option Value} {base : Heap} {j k : Nat} {x : Str} {n : Nat} {m : Addr → MF} (F : FgH P w K mg base j x n m) (h : j ≤ k) : FgH P w K mg base k x n m :=
  let ⟨f, fd, ps, a, b, c, d⟩ := F.ex
  ⟨f, fd, ps, a, b, ⟨fun A outer s H args us vs Q E a hr => c.run A outer s H args us vs Q E a (hr.mono h)⟩, d⟩
section
variable {X : Cx} {W : WX} {k : Nat} {a : Addr}
/-- f(e, ..) there, f raising nothing, with a store of its own -/
theorem de_callH {x : Str} {p pos : Pos} {e : Expr} {es : List Expr} {n : Nat} {m : Addr → MF} {ma : MA} (F : FgH X.prog X.w X.K X.mg X.base k x n m) (C : CtxH X a k) (hg : Gl X x) (ha : DA X WN (e :: es) ma) (hn : (e :: es).length = n)
    (hdb : (x == ("__debug__" : Str)) = false := by decide) (he : starEach (e :: es) X.env = (false, eval e X.env) :: starEach es X.env := by rfl) (hpl : (backTo pos (starEach es X.env)).any (·.1) = false := by rfl) (hal : ∀ env st us st', ma env st = .ok us st' → us.length = (e :: es).length) :
    DE X WN (.Call (.Name x p) (e :: es) [] pos) (mCallP (m a) [] ma) := by
  obtain ⟨f, fd, ps, hm, hk, G, hps, hb⟩ := F.ex
  refine PE.weak (t := fun σ H Q => tA X.K WN ma σ H fun vs H1 => vs.length = ps.length ∧ spG X.K (m a) vs H1 Q (fun _ _ _ => False)) ⟨fun pins s σ H Q I h => ?_⟩ ?_
  · refine wpAny_Call_Name_kw (ld_glob I hg hm ?_ hdb)
    refine PySem.W.callWith_K (h₀ := X.base) I.ok.mod.kin hk (thn (ha.run pos pins s σ H _ I h) fun us s1 hh => ?_) he hpl
    obtain ⟨vs, H1, I1, r, hl, q⟩ := hh
    refine ⟨I1.kIn, ?_⟩
    have hl2 : us.length = ps.length := by rw [← r.length]; exact hl
    have b := hb s1 us I1.kIn (by rw [List.append_nil]; exact hl2)
    rw [List.append_nil] at b
    refine wpAny_call (codeAny_mono (G.run X.A X.stack s1 H1 ⟨us, []⟩ us vs Q (fun _ _ _ => False) a C.room C.gd C.ha I1.env0 b r hl q) fun r s' hq => ?_)
    cases r with
    | error e =>
      obtain ⟨_, _, _, _, _, _, _, _, _, _, _, _, z⟩ := hq
      exact z.elim
    | ok fl =>
      cases fl with
      | ret u => exact I1.after hq
      | next => exact False.elim hq
      | brk => exact False.elim hq
      | cont => exact False.elim hq
  · rintro σ H Q ⟨Fh, ρ, st, env, ⟨R, E⟩, p⟩
    refine ⟨Fh, ρ, st, env, ⟨R, E⟩, Post.bind p fun us st1 vs F1 ρ1 H1 em ev R1 i1 p1 => ?_⟩
    split at p1
    · rename_i hnr
      rw [List.append_nil] at p1
      refine ⟨by rw [IRs.length i1, hal _ _ _ _ em, hn, hps], F1, [], [], us, R1.nil, IRs.alone [] i1 hnr, ?_⟩
      have q := impR_ok (W := WN) (σ := σ) R1 p1
      cases e : m a us [] with
      | ok u st' => rw [e] at q; exact q
      | ex x st' => rw [e] at q; exact q
      | bad => rw [e] at q; exact q
    · exact p1.elim
/-- a comprehension over a list there; slot j holds the exception -/
noncomputable def mLcH (a : Addr) (j : Nat) (s : Bool) (vs : List Nat) (it : ME) (g : MG) (tt : MT) (te : ME) : ME := fun env st => match env[j]? with
  | some (some (.x b _ _ _)) => if b = a then (it env st).bind fun u st => match seqOf u st with
    | some us => if isL u then (compL (depOf u us) g tt te (wipeE env vs) us [] st).bindN fun us st => mkL s us st else .bad
    | none => .bad
    else .bad
  | _ => .bad
theorem de_lcH {elt tg iter : Expr} {ifs : List Expr} {scope : Scope} {own : List (Str × Nat)} {vs' : List Nat} {pos : Pos} {it : ME} {g : MG} {tt : MT} {te : ME} (j : Nat) (s : Bool) (C : CtxH X a k) (hi : DE X W iter it) (ok : BlkOk X.N X.env.scope scope own) (hvs : ∀ i ∈ vs', i ∈ own.map (·.2))
    (hg : ∀ (s : Shared) (H : Hp) (C : Addr) (cl : List (Str × Addr)) (fp : List Addr), DG (X.blk s H scope (compEnvC scope cl C X.env) fp) vs' tg g) (ht : ∀ (s : Shared) (H : Hp) (C : Addr) (cl : List (Str × Addr)) (fp : List Addr), DTs (X.blk s H scope (compEnvC scope cl C X.env) fp) WN ifs tt)
    (he : ∀ (s : Shared) (H : Hp) (C : Addr) (cl : List (Str × Addr)) (fp : List Addr), DE (X.blk s H scope (compEnvC scope cl C X.env) fp) WN elt te) (hs : ∀ x, foldedSetIterable iter X.env x = pure x := by intro _; rfl) :
    DE X W (.ListComp elt [⟨tg, iter, ifs, 0⟩] scope pos) (mLcH a j s (own.map (·.2)) it g tt te) := by
  refine PE.weak (pe_lcH (g := tG X.K vs' g) (tt := tT X.K WN tt) (te := tE X.K WN te) C.ha C.nd hi ok hg ht he hs) ?_
  rintro σ H Q ⟨F, ρ, st, env, ⟨R, E⟩, p⟩
  unfold mLcH at p
  split at p
  · rename_i b c f x hx
    split at p
    · rename_i eb
      subst eb
      obtain ⟨v, _, i0⟩ := E.2 j _ hx
      cases i0 with
      | x i0 =>
        obtain ⟨dx, w, hF, _, _⟩ := i0
        refine ⟨F, ρ, st, env, ⟨R, E⟩, Post.bind p fun u st1 x1 F1 ρ1 H1 em ev R1 i1 p1 => ?_⟩
        split at p1
        · rename_i us hu
          split at p1
          · rename_i hl
            obtain ⟨bb, vs, e1, hs1, r1⟩ := seqOf_L R1 i1 hu (isL_nt hl)
            subst e1
            refine ⟨bb, rfl, ⟨_, hs1⟩, fun D hD => ?_⟩
            have wo : WalkOk X.K F1 ρ1 (Itl X.K bb) (us, depOf u us) := by
              obtain ⟨a', vs', e', r, q | q⟩ := seq_stays R1 i1 hu
              · cases e'
                obtain ⟨_, q⟩ := q
                refine ⟨us.length, _, _, walk_listA (K := X.K) (a := bb), rfl, fun F' ρ' st' H' s pr R' d => ?_, fun i v H2 F' ρ' st' H2' s pr R' d hi y => ?_⟩
                · obtain ⟨ws, w1, w2⟩ := q F' ρ' st' H' s pr R' d
                  exact ⟨ws, w1, IRs.length w2⟩
                · obtain ⟨ws, w1, w2⟩ := q F' ρ' st' H2 s pr R' d
                  obtain ⟨rfl, y⟩ := y
                  have e1 := y ws w1
                  obtain ⟨v', e2, i2⟩ := IRs.get w2 (List.getElem?_eq_getElem hi)
                  rw [e1] at e2; cases e2
                  exact ⟨F', us[i], Evo.refl, R', List.getElem?_eq_getElem hi, i2⟩
              · rw [hl] at q; cases q.1
            obtain ⟨acc, st2, ea, eb⟩ := bindN_ok p1.nb
            rw [eb] at p1
            have z := comp_walk (W := W) (F := F1) (ρ := ρ1) (H := H1) (σ := σ) (Qd := fun H2 => (∃ C d, H2 b = some (xo b C d)) ∧ Q (.ref D) H2) hvs hD (CI.start R1 hD) (E.mono ev.fr ev.pre).wipe wo (fun z => by rw [ea] at z; cases z) (fun F2 ρ2 st3 H2 acc2 c2 e2 sb _ => by
              rw [ea] at e2
              cases e2
              obtain ⟨_, _, _, R2, _⟩ := id c2
              exact ⟨⟨_, dx, R2.sub _ _ (sb _ _ (ev.fr _ _ hF))⟩, c2.fin hD p1⟩)
            obtain ⟨Wv, h0, h1⟩ := z
            exact ⟨Wv, h0, fun i m H3 w3 => by
              rcases h1 i m H3 w3 with ⟨q1, q2, q3⟩ | q
              · exact .inl ⟨q1, q2, q3⟩
              · exact .inr q⟩
          · exact p1.elim
        · exact p1.elim
    · exact p.elim
  · exact p.elim
end
end Dd

set_option Elab.async false
set_option linter.all false
set_option maxRecDepth 100000
set_option maxHeartbeats 4000000
/-! Tuple targets while an exception is handled; exceptions made by keyword. -/
namespace Dd
open PySem PySem.Spec PyProof.Rows L2 L2H

section
variable {prog : Program} {w : World} {A : Around} {E : Value → Shared → Prop} {s : Shared}
theorem next_tup_end_hot {it l x1 : Addr} {i : Nat} {items : Array Value} {Q : Option Value → Shared → Prop} (hot : HotX.HotAt A x1 s.heap) (hx1 : x1 ≠ it) (hit : IsTupIter s.heap it l i) (ht : IsTup s.heap l items) (hx : items[i]? = none)
    (hQ : ∀ h', (∀ b o, b ≠ it → s.heap.get? b = some o → h'.get? b = some o) → Q none { s with heap := h' }) : wpAny (model prog w) A (pyNext (.ref it)) Q E s := by
  obtain ⟨o, ho, hc, hd⟩ := id hit
  obtain ⟨ol, hol, _, nl, hdl⟩ := ht
  obtain ⟨hh, o1, vs1, h1, d1, c1⟩ := hot
  unfold pyNext
  refine wpAny_bind (wpAny_attempt (wpAny_callSpecial?_slot (name := Str.ofString "__next__") hit.typeIs slot_tupleiter_next
    (wpAny_call_entry slot_tupleiter_next hit.typeIs entry_tupleiter_next ?_ (args_tupleiter_next _))))
  show wpAny _ _ (field (.ref it) 0 >>= _) _ _ s
  refine wpAny_bind (wpAny_field ho hd (x := .ref l) rfl ?_)
  show wpAny _ _ (if (Value.ref l == Value.none) = true then _ else _) _ _ s
  rw [if_neg (show ¬ ((Value.ref l == Value.none) = true) from Bool.false_ne_true)]
  show wpAny _ _ (field (.ref it) 1 >>= _) _ _ s
  refine wpAny_bind (wpAny_field ho hd (x := .int i 0) rfl ?_)
  show wpAny _ _ (seqItems? (.ref l) >>= _) _ _ s
  refine wpAny_bind (wpAny_seqItems hol hdl ?_)
  simp only [Int.toNat_natCast, hx]
  refine wpAny_bind (wpAny_rule (wpAny_bind (wpAny_setField ho hd (by simp) ?_)))
  show wpAny _ _ (newExc (.type "StopIteration") [] >>= _) _ _ _
  refine wpAny_bind ?_
  simp only [newExc, newTuple]
  refine wpAny_bind (wpAny_newObj_type ?_ (by size_fits))
  refine wpAny_bind (m := firstArgMember _ _) (wpAny_of_eq (a := Value.none) (by first | rfl | (simp only [firstArgMember]; rfl)) ?_)
  refine wpAny_newObj_type ?_ (by size_fits)
  have keep0 : ∀ {f : Obj → Obj} {b : Addr} {ob : Obj}, b ≠ it → s.heap.get? b = some ob → (s.heap.update it f).get? b = some ob := fun {f b ob} n e => (Heap.get?_update_other _ _ (Ne.symm n)).trans e
  refine HotX.raiseNew_hot ⟨hh, o1, vs1, Heap.get?_push_of_some _ (Heap.get?_push_of_some _ (keep0 hx1 h1)), d1, c1⟩ (Nat.ne_of_lt (Heap.lt_size (Heap.get?_push_of_some _ (keep0 hx1 h1)))) (Heap.get?_push_size _ rfl) rfl (by first | (simp; done) | (simp; omega) | (simp only [Array.size_append]; simp; omega)) ?_
  refine wpAny_bind (wpAny_isInstance (T := "StopIteration") (b := true) ⟨_, Heap.get?_update_self _ (Heap.get?_push_size _ rfl) rfl, rfl⟩ isSubtype_stop ?_)
  refine wpAny_pure (hQ _ fun b ob n e => ?_)
  rw [Heap.get?_update_other _ _ (Nat.ne_of_gt (Heap.lt_size (Heap.get?_push_of_some _ (keep0 n e))))]
  exact Heap.get?_push_of_some _ (Heap.get?_push_of_some _ (keep0 n e))
theorem unpack_tup_hot {t x1 : Addr} {items : Array Value} {Q : List Value → Shared → Prop} (hot : HotX.HotAt A x1 s.heap) (ht : IsTup s.heap t items)
    (hQ : ∀ h', (∀ b o, s.heap.get? b = some o → h'.get? b = some o) → Q items.toList { s with heap := h' }) : wpAny (model prog w) A (unpackItems (.ref t) items.size none) Q E s := by
  have hlt : t ≠ s.heap.objs.size := by obtain ⟨o, ho, _⟩ := ht; exact Nat.ne_of_lt (Heap.lt_size ho)
  obtain ⟨hh, o1, vs1, h1, d1, c1⟩ := hot
  have hxs : x1 ≠ s.heap.objs.size := Nat.ne_of_lt (Heap.lt_size h1)
  unfold unpackItems
  refine wpAny_bind ?_
  unfold notIterableAtAll
  refine wpAny_bind (wpAny_specialOf ht.typeIs slot_tuple_iter.lookup ?_)
  refine wpAny_pure ?_
  simp only [Bool.false_eq_true, if_false]
  refine wpAny_bind (wpAny_holding (iter_tuple ht ?_))
  refine wpAny_bind (wpAny_holding (draw_tuple hlt items.size 0 _ _ ⟨_, Heap.get?_push_size _ rfl, rfl, rfl⟩ (ht.push _) (by omega) fun h₁ hit₁ hs₁ => ?_))
  have hall : List.take items.size (List.drop 0 items.toList) = items.toList := by
    rw [List.drop_zero]; exact List.take_of_length_le (by simp)
  rw [hall]
  rw [if_neg (by simp)]
  have ht1 : IsTup h₁ t items := (ht.push _).extBut hs₁.extBut hlt
  refine wpAny_bind (wpAny_holding (next_tup_end_hot (x1 := x1) ⟨hh, o1, vs1, hs₁.extBut x1 o1 hxs (Heap.get?_push_of_some _ h1), d1, c1⟩ hxs hit₁ ht1 (by simp) fun h₂ he₂ => ?_))
  simp only [Option.isSome_none, Bool.false_eq_true, if_false]
  refine wpAny_pure (hQ h₂ fun b o e => ?_)
  have hb : b ≠ s.heap.objs.size := Nat.ne_of_lt (Heap.lt_size e)
  exact he₂ b o hb (hs₁.extBut b o hb (Heap.get?_push_of_some _ e))
end
section
variable {X : Cx} {W : WX} {k : Nat} {a : Addr}
def gTupH (K : PySem.W.Frag) (x1 : Addr) (n : Nat) (t : TGs) : TG := fun v σ H Q => ∃ a xs, v = .ref a ∧ SqT K H a xs ∧ xs.length = n ∧ (∃ C d, H x1 = some (xo x1 C d)) ∧ t xs σ H Q
theorem pg_tupH {es : List Expr} {j : Nat} {t : TGs} {n : Nat} {pos : Pos} {x1 : Addr} (hot : X.A.handled = some (.ref x1)) (h : PGs X es t)
    (hn : (assignEach es X.env).length = n := by rfl) (hst : (assignEach es X.env).findIdx? (·.1) = none := by rfl) : PG X (.Tuple es j pos) (gTupH X.K x1 n t) := by
  refine ⟨fun pins s σ H v u Q I r hw => ?_⟩
  obtain ⟨a, xs, e1, hq, hl, ⟨C, d, hx⟩, hw⟩ := hw
  subst e1
  cases r
  obtain ⟨its, rv, ht, hz⟩ := I.tuple hq
  obtain ⟨oe, vs, h1, _, _, d1, c1⟩ := xo_at I.hok hx
  have hlen : its.toArray.size = n := by simp [← hl, rv.length]
  rw [assign_Tuple]
  refine wpAny_bind (wpAny_standAt ?_)
  unfold unpack
  rw [hst, hn, ← hlen]
  refine wpAny_bind (wpAny_holding (unpack_tup_hot ⟨hot, oe, vs, h1, d1, c1⟩ ht fun h' kp => ?_))
  exact h.run pins _ σ H xs _ Q (I.kept (t' := s.toks) kp) (by simpa using rv) hw
/-- a tuple's target there; slot j holds the exception -/
def gTH (a : Addr) (j n : Nat) (g : MGs) : MG := fun u env st => match env[j]? with
  | some (some (.x b _ _ _)) => if b = a then gT n g u env st else none
  | _ => none
theorem dg_tupH {es : List Expr} {kk : Nat} {pos : Pos} {n : Nat} {vs : List Nat} {g : MGs} (j : Nat) (hot : X.A.handled = some (.ref a)) (h : DGs X vs es g)
    (hn : (assignEach es X.env).length = n := by rfl) (hst : (assignEach es X.env).findIdx? (·.1) = none := by rfl) : DG X vs (.Tuple es kk pos) (gTH a j n g) := by
  refine PG.weak (pg_tupH hot h hn hst) ?_
  rintro v σ H Q ⟨F, ρ, st, env, u, env', ⟨R, E⟩, i1, e, k⟩
  unfold gTH at e
  split at e
  · rename_i b c f x hx
    split at e
    · rename_i eb
      subst eb
      obtain ⟨_, _, i0⟩ := E.2 j _ hx
      cases i0 with
      | x i0 =>
        obtain ⟨dx, w, hF, _, _⟩ := i0
        unfold gT at e
        split at e
        · split at e
          · rename_i xs hl
            obtain ⟨a, ws, rfl, h1, h2⟩ := i1.tup_inv
            exact ⟨a, ws, rfl, R.sub.sqT h1, by rw [h2.length]; exact hl, ⟨_, dx, R.sub _ _ hF⟩, F, ρ, st, env, _, env', ⟨R, E⟩, h2.irs, e, k⟩
          · cases e
        · cases e
    · cases e
  · cases e
end
end Dd

set_option Elab.async false
set_option linter.all false
set_option maxRecDepth 100000
set_option maxHeartbeats 4000000
/-! C(f=e): the same calls with a keyword. -/
namespace Dd
open PySem PySem.Spec PyProof.Rows L2

section
variable {prog : Program} {w : World} {A : Around} {E : Value → Shared → Prop} {R : Result → Shared → Prop} {h : Heap} {g : Array GenState} {d : Drawn} {t : Nat} {os : OsState}
variable {nm q : Str} {C N : Addr} {bs bm bmB : List Value} {hdct : Bool} {sn : List Str} {sub : List Value} {ab : Bool} {col : Option Bool} {dd : Option Addr} {k0 k1 k2 k3 k5 : Option Value} {B newId initId : String} {kw : List (Str × Value)}
theorem kw_check_new {M : Model} (F : ExcBaseFacts B newId initId bmB) (hT : ∀ X : String, bm.contains (.type X) = bmB.contains (.type X)) {Q : Unit → Shared → Prop}
    (hC : h.get? C = some (excClassObj nm q C N bs bm hdct sn sub ab col dd k0 k1 k2 k3 k5 newId)) (hq : Q () ⟨h, g, d, t, os⟩) : wpAny M A (checkBuiltinCall newId ⟨[.ref C], kw⟩) Q E ⟨h, g, d, t, os⟩ := by
  have hcont : (Value.ref C :: bm).contains (.type B) = true := by rw [List.contains_cons, hT, F.hasB, Bool.or_true]
  have hstar := F.noStar
  simp only [checkBuiltinCall, F.newKind, F.newSplit, F.newRow]
  repeat (first | refine wpAny_loadPart_at hC ?_ | (refine wpAny_isSubtype_exc hC ?_; rw [hcont]) | refine wpAny_staticBase_exc hC ?_ | refine wpAny_madeBy_exc hC ?_ | simp only [bne_self_eq_false, Bool.false_eq_true, if_false] | wp_step)
  exact hq
theorem kw_new (F : ExcBaseFacts B newId initId bmB) (hT : ∀ X : String, bm.contains (.type X) = bmB.contains (.type X)) (hC : h.get? C = some (excClassObj nm q C N bs bm hdct sn sub ab col dd k0 k1 k2 k3 k5 newId))
    (hq : R (.ok (.ret (.ref (h.objs.size + 1)))) ⟨(h.push { cls := .type "tuple", data := .seq ([] : List Value).toArray }).push { cls := .ref C, data := .fields #[.ref h.objs.size, .none, .none, .none, .bool false, .none] }, g, d, t, os⟩) :
    codeAny (model prog w) A (.builtin newId ⟨[.ref C], kw⟩) R ⟨h, g, d, t, os⟩ := by
  have hends := F.ends
  have hcB : (Value.ref C :: bm).contains (.type B) = true := by rw [List.contains_cons, hT, F.hasB, Bool.or_true]
  have hcA : (Value.ref C :: bm).contains (.type "AttributeError") = false := by rw [List.contains_cons, hT, F.noAttr]; rfl
  have hcN : (Value.ref C :: bm).contains (.type "NameError") = false := by rw [List.contains_cons, hT, F.noName]; rfl
  have hz : ([] : List Value).length ≤ sizeLine := Nat.zero_le _
  refine codeAny_builtinAt F.entry ?_
  unfold Builtin.«BaseException.__new__»
  refine PySem.wpAt_bind ?_
  show PySem.wpAt _ _ _ (stack >>= _) _ _ _
  refine PySem.wpAt_bind (PySem.wpAt_stack fun p below => PySem.wpAt_of_wpAny ?_)
  wp_walk
  refine PySem.wpAt_of_wpAny ?_
  rw [F.owner]
  repeat (first | with_reducible refine wpAny_madeHere_exc F.canon hC ?_ | with_reducible refine wpAny_loadPart_at hC ?_ | (with_reducible refine wpAny_isSubtype_exc hC ?_; first | rw [hcB] | rw [hcA] | rw [hcN]) | wp_step)
  show R _ _
  rw [Heap.size_push]
  exact hq
theorem kw_type_call (F : ExcBaseFacts B newId initId bmB) (hT : ∀ X : String, bm.contains (.type X) = bmB.contains (.type X)) {fI : Addr} {Q : Fin → Shared → Prop}
    (hC : h.get? C = some (excClassObj nm q C N bs bm hdct sn sub ab col dd k0 k1 k2 k3 k5 newId))
    (hi : PySem.W.Looks (model prog w) h (typeLookup (.ref C) "__init__") (some (.ref fI))) (hb : ∀ self, PySem.W.Looks (model prog w) h (bindSpecial (.ref fI) self) (.ref fI, [self]))
    (hq : codeAny (model prog w) A (.call (.ref fI) ⟨[.ref (h.objs.size + 1)], kw⟩) (fun r s' => match r with | .ok (.ret v) => v = .none ∧ Q (.done (.ret (.ref (h.objs.size + 1)))) s' | .ok _ => False | .error e => E e s')
      ⟨(h.push (PySem.W.kdv_tup [])).push (PySem.HandSPX.excO C h.objs.size), g, d, t, os⟩) : wpAny (model prog w) A (Builtin.«type.__call__» ⟨[.ref C], kw⟩) Q E ⟨h, g, d, t, os⟩ := by
  repeat (first | with_reducible refine wpAny_loadPart_at hC ?_ | with_reducible refine wpAny_madeBy_exc hC ?_ | wp_step)
  refine codeAny_call_builtin_code (Code.quiet_builtin _ F.quiet) (kw_check_new F hT hC ?_)
  refine kw_new F hT hC ?_
  show wpAny _ _ _ _ _ _
  have k : ∀ b o, h.get? b = some o → ((h.push (PySem.W.kdv_tup [])).push (PySem.HandSPX.excO C h.objs.size)).get? b = some o := fun b o e => Heap.get?_push_of_some _ (Heap.get?_push_of_some _ e)
  have hC1 := k _ _ hC
  have hget : ((h.push (PySem.W.kdv_tup [])).push (PySem.HandSPX.excO C h.objs.size)).get? (h.objs.size + 1) = some (PySem.HandSPX.excO C h.objs.size) := by heap_get
  have hcC : (Value.ref C :: bm).contains (.ref C) = true := by simp
  have i1 := hi.keeps k
  have b1 := (hb (.ref (h.objs.size + 1))).keeps k
  unfold isInstance
  repeat (first | with_reducible refine wpAny_loadPart_at hget ?_ | (with_reducible refine wpAny_isSubtype_exc hC1 ?_; rw [hcC]) | wp_step)
  show wpAny _ _ (typeLookup (.ref C) _) _ _ _
  refine i1.at ?_
  refine wpAny_holding (wpAny_bind (b1.at ?_))
  refine wpAny_bind (wpAny_call (codeAny_mono hq fun r s' z => ?_))
  rcases r with e | (v | _ | _ | _) <;> first | exact z | exact z.elim | skip
  obtain ⟨rfl, z⟩ := z
  first
    | exact wpAny_pure (wpAny_pure z)
    | (wp_walk; exact z)
theorem kw_check_call {M : Model} {Q : Unit → Shared → Prop} (hC : h.get? C = some (excClassObj nm q C N bs bm hdct sn sub ab col dd k0 k1 k2 k3 k5 newId)) (hq : Q () ⟨h, g, d, t, os⟩) :
    wpAny M A (checkBuiltinCall "type.__call__" ⟨[.ref C], kw⟩) Q E ⟨h, g, d, t, os⟩ := by
  have f3 := tc_sub
  have hT : (⟨h, g, d, t, os⟩ : Shared).TypeIs (.ref C) "type" := ⟨_, hC, rfl⟩
  simp only [checkBuiltinCall, tc_kind, tc_split]
  repeat (any_goals (first | assumption | with_reducible refine wpAny_loadPart_at hC ?_ | with_reducible refine wpAny_onRaise ?_ | with_reducible refine wpAny_map ?_ | wp_step))
theorem kw_call (F : ExcBaseFacts B newId initId bmB) (hT : ∀ X : String, bm.contains (.type X) = bmB.contains (.type X)) {fI : Addr}
    (hC : h.get? C = some (excClassObj nm q C N bs bm hdct sn sub ab col dd k0 k1 k2 k3 k5 newId))
    (hi : PySem.W.Looks (model prog w) h (typeLookup (.ref C) "__init__") (some (.ref fI))) (hb : ∀ self, PySem.W.Looks (model prog w) h (bindSpecial (.ref fI) self) (.ref fI, [self]))
    (hq : codeAny (model prog w) (A.under (.builtin "type.__call__" ⟨[.ref C], kw⟩)) (.call (.ref fI) ⟨[.ref (h.objs.size + 1)], kw⟩) (PySem.W.InitBack (h.objs.size + 1) R)
      ⟨(h.push (PySem.W.kdv_tup [])).push (PySem.HandSPX.excO C h.objs.size), g, d, t, os⟩) :
    codeAny (model prog w) A (.call (.ref C) ⟨[], kw⟩) R ⟨h, g, d, t, os⟩ := by
  have f1 := tc_lookup
  have f2 := tc_bind (.ref C)
  have hTy : (⟨h, g, d, t, os⟩ : Shared).TypeIs (.ref C) "type" := ⟨_, hC, rfl⟩
  refine codeAny_of_tree ?_
  show wpAny _ _ (callAny (.ref C) _) _ _ _
  repeat (any_goals (first | assumption | with_reducible refine wpAny_loadPart_at hC ?_ | wp_step))
  refine ⟨rfl, ?_⟩
  refine codeAny_call_builtin_at (Code.quiet_builtin _ (by decide +kernel)) entry_typeCall (kw_check_call hC (kw_type_call F hT hC hi hb ?_))
  refine codeAny_mono hq fun r s' z => ?_
  rcases r with e | (v | _ | _ | _) <;> exact z
end
section
variable {X : Cx} {W : WX} {k : Nat}
theorem makeK_go {pins : List (Addr × Obj)} {σ : L2.St} {H : Hp} {s : Shared} {C fI : Addr} {fd : FuncData} {f : Str} {y : V} {u : Value} {Q : Value → Shared → Prop} {E : Value → Shared → Prop} (T : XcC X.K C f) (iC : PySem.W.findIn X.K (.ref C) "__init__" = some (some (.ref fI))) (tI : PySem.W.typeIn X.K (.ref fI) = some (.type "function"))
    (F1 : FnOk X.prog X.w X.K X.mg X.base CX0 1 fI fd ["self", f] (spI C f)) (hb : ∀ (s : Shared) (e u : Value), BindsTo s fd ⟨[e], [(f, u)]⟩ [("self", e), (f, u)]) (hr : Room 2 X.A) (I : Inv X pins σ H s) (ry : RelV y u)
    (hq : ∀ (hp : Heap) (g : Array GenState) (dr : Drawn) (tk : Nat) (os : OsState) (hp2 h2 : Heap) (g2 : Array GenState) (d2 : Drawn) (t2 : Nat) (a dx : Addr) (H2 : Hp), s = ⟨hp, g, dr, tk, os⟩ → a = hp.objs.size + 1 → (∀ b o, hp.get? b = some o → hp2.get? b = some o) →
      Inv X pins σ (upd H a (exo a C none)) ⟨hp2, g, dr, tk, os⟩ → Un (frs X.stack) [] (upd H a (exo a C none)) H2 hp2 h2 → HOk X.prog X.w H2 h2 → AllBare g2 → H a = none → H dx = none → dx ≠ a → H2 = upd (upd (upd H a (exo a C none)) dx (exd dx [(f, y)])) a (exo a C (some dx)) → Q (.ref a) ⟨h2, g2, d2, t2, os⟩) :
    wpAny (model X.prog X.w) X.A (call (.ref C) [] [(f, u)]) Q E s := by
  obtain ⟨hp, g, dr, tk, os⟩ := s
  obtain ⟨nm, N, qn, bs, bm, hdct, sn, sub, ab, col, dd, k0, k1, k2, k3, k5, hC, hT⟩ := PySem.W.excInit_of I.kIn T.ini
  have hsz : hp.objs.size ≤ hp.objs.size + 1 := Nat.le_succ _
  have hn : H (hp.objs.size + 1) = none := I.hok.fresh hsz
  have kk : ∀ b o, hp.get? b = some o → ((hp.push (PySem.W.kdv_tup [])).push (PySem.HandSPX.excO C hp.objs.size)).get? b = some o := fun b o e => Heap.get?_push_of_some _ (Heap.get?_push_of_some _ e)
  have hget : ((hp.push (PySem.W.kdv_tup [])).push (PySem.HandSPX.excO C hp.objs.size)).get? (hp.objs.size + 1) = some (PySem.HandSPX.excO C hp.objs.size) := by heap_get
  have I2 : Inv X pins σ (upd H (hp.objs.size + 1) (exo (hp.objs.size + 1) C none)) ⟨(hp.push (PySem.W.kdv_tup [])).push (PySem.HandSPX.excO C hp.objs.size), g, dr, tk, os⟩ :=
    I.laid (t' := tk) (a := hp.objs.size + 1) (o := exo (hp.objs.size + 1) C none) (h' := (hp.push (PySem.W.kdv_tup [])).push (PySem.HandSPX.excO C hp.objs.size)) kk hsz (exo_ok hget)
  have r2 : Vals [V.ref (hp.objs.size + 1), y] [Value.ref (hp.objs.size + 1), u] := .cons rfl (.cons ry .nil)
  refine wpAny_call (kw_call PySem.F.excBase_Exception hT hC (PySem.W.looks_findIn I.kIn iC) (fun self => PySem.W.bind_fn I.kIn self tI)
    (codeAny_mono (F1.run _ X.stack _ _ ⟨[Value.ref (hp.objs.size + 1)], [(f, u)]⟩ [Value.ref (hp.objs.size + 1), u] [V.ref (hp.objs.size + 1), y] (fun v H2 => v = .non ∧ ∃ dx, H dx = none ∧ dx ≠ hp.objs.size + 1 ∧ H2 = upd (upd (upd H (hp.objs.size + 1) (exo (hp.objs.size + 1) C none)) dx (exd dx [(f, y)])) (hp.objs.size + 1) (exo (hp.objs.size + 1) C (some dx))) (fun _ _ _ => False)
      (hr.make C [] [(f, u)]) (I2.env0.make C [] [(f, u)]) (hb _ _ _) r2 ⟨_, y, rfl, upd_same, fun dx n ne => ⟨rfl, dx, by rw [upd_ne ne] at n; exact n, ne, rfl⟩⟩) fun r s' hq' => ?_))
  cases r with
  | error er => exact hq'.elim
  | ok fl =>
    cases fl with
    | ret v =>
      obtain ⟨v2, H2, os2, bare2, un2, hok2, rv, ev, dx, n, ne, eH⟩ := hq'
      subst ev
      obtain ⟨h2, g2, d2, t2, os'⟩ := s'
      obtain rfl : os' = os := os2
      exact ⟨rv, hq hp g dr tk _ _ h2 g2 d2 t2 _ dx H2 rfl rfl kk I2 un2 hok2 bare2 hn n ne eH⟩
    | next => exact False.elim hq'
    | brk => exact False.elim hq'
    | cont => exact False.elim hq'
theorem pe_xvK {x f : Str} {e : Expr} {te : TE} {p pk pos : Pos} (T : XcF X.prog X.w X.K X.mg X.base x f) (hr : Room 2 X.A) (hg : Gl X x) (he : PE X e te)
    (hall : (backToKw pos (keywordEach [⟨some f, e, pk⟩] X.env)).all (·.1.isSome) = true := by rfl) (hks : (backToKw pos (keywordEach [⟨some f, e, pk⟩] X.env)).filterMap (·.1) = [f] := by rfl) (hdb : (x == ("__debug__" : Str)) = false := by decide)
    (hpl : ((backTo pos (starEach [] X.env)).any (·.1) || (backToKw pos (keywordEach [⟨some f, e, pk⟩] X.env)).any (·.1.isNone)) = false := by rfl) : PE X (.Call (.Name x p) [] [⟨some f, e, pk⟩] pos) (tXv (He.ga X.K x) f te) := by
  refine ⟨fun pins s σ H Q I h => ?_⟩
  obtain ⟨fI, fd, iC, tI, F1, _, hb⟩ := T.i
  refine wpAny_Call_Name_kw (ld_glob I hg T.m ?_ hdb)
  refine PySem.W.callWith_KW0 (h₀ := X.base) I.ok.mod.kin T.c.kC hall ?_ hpl
  refine thn ((pk_cons he pk_nil).run pos pins s σ H (fun vs H1 => ∃ y, vs = [y] ∧ ∀ a d, H1 a = none → H1 d = none → d ≠ a → Q (.ref a) (upd (upd H1 d (.xd [(f, y)])) a (xo a (He.ga X.K x) d))) I (te_one h)) fun us s1 hh => ?_
  obtain ⟨vs, H1, I1, r1, y, rfl, q⟩ := hh
  obtain ⟨u, rfl, ru⟩ := Vals.one r1
  refine ⟨I1.kIn, ?_⟩
  rw [hks]
  show wpAny _ _ (call (.ref (He.ga X.K x)) [] [(f, u)]) _ _ _
  refine makeK_go T.c iC tI F1 hb hr I1 ru fun hp g dr tk os hp2 h2 g2 d2 t2 a dx H2 es ea kk I2 un hok bare na nd ne eH => ?_
  have J : Inv X pins σ H2 ⟨h2, g2, d2, t2, os⟩ := I2.call (h' := h2) (g' := g2) (d' := d2) (t' := t2) (ch := []) un hok bare (fun b z => absurd z (by simp))
  have Jr := inv_retold J (a := a) (C := He.ga X.K x) (d := dx) (fs := [(f, y)]) (by rw [eH, upd_same]) (by rw [eH, upd_ne ne, upd_same])
  refine ⟨.ref a, _, Jr, rfl, ?_⟩
  have e3 : upd (upd H2 dx (.xd [(f, y)])) a (xo a (He.ga X.K x) dx) = upd (upd H1 dx (.xd [(f, y)])) a (xo a (He.ga X.K x) dx) := by
    funext b
    by_cases hb : b = a
    · subst hb; rw [upd_same, upd_same]
    · rw [upd_ne hb, upd_ne hb]
      by_cases hd : b = dx
      · subst hd; rw [upd_same, upd_same]
      · rw [upd_ne hd, upd_ne hd, eH, upd_ne hb, upd_ne hd, upd_ne hb]
  rw [e3]
  exact q a dx na nd ne
theorem pmk_xK {x f : Str} {e : Expr} {te : TE} {p pk pos : Pos} (T : XcF X.prog X.w X.K X.mg X.base x f) (hr : Room 2 X.A) (hg : Gl X x) (he : PE X e te)
    (hall : (backToKw pos (keywordEach [⟨some f, e, pk⟩] X.env)).all (·.1.isSome) = true := by rfl) (hks : (backToKw pos (keywordEach [⟨some f, e, pk⟩] X.env)).filterMap (·.1) = [f] := by rfl) (hdb : (x == ("__debug__" : Str)) = false := by decide)
    (hpl : ((backTo pos (starEach [] X.env)).any (·.1) || (backToKw pos (keywordEach [⟨some f, e, pk⟩] X.env)).any (·.1.isNone)) = false := by rfl) : L2N.PMk X (.Call (.Name x p) [] [⟨some f, e, pk⟩] pos) (tXr (He.ga X.K x) f te) := by
  intro pins s σ H Q I h
  obtain ⟨fI, fd, iC, tI, F1, _, hb⟩ := T.i
  refine wpAny_Call_Name_kw (ld_glob I hg T.m ?_ hdb)
  refine PySem.W.callWith_KW0 (h₀ := X.base) I.ok.mod.kin T.c.kC hall ?_ hpl
  refine thn ((pk_cons he pk_nil).run pos pins s σ H (fun vs H1 => ∃ y, vs = [y] ∧ ∀ d, H1 d = none → Q (.ref (He.ga X.K x)) (some d) (upd H1 d (.xd [(f, y)]))) I (te_one h)) fun us s1 hh => ?_
  obtain ⟨vs, H1, I1, r1, y, rfl, q⟩ := hh
  obtain ⟨u, rfl, ru⟩ := Vals.one r1
  refine ⟨I1.kIn, ?_⟩
  rw [hks]
  show wpAny _ _ (call (.ref (He.ga X.K x)) [] [(f, u)]) _ _ _
  refine makeK_go T.c iC tI F1 hb hr I1 ru fun hp g dr tk os hp2 h2 g2 d2 t2 a dx H2 es ea kk I2 un hok bare na nd ne eH => ?_
  subst es
  subst ea
  obtain ⟨t0, G, J, kG, ge, hoe, nn⟩ := mk_end0 (d2 := d2) (t2 := t2) (a := hp.objs.size + 1) (C := He.ga X.K x) (d := dx) (fs := [(f, y)]) I1 (Nat.le_succ _) kk un hok rfl bare (by rw [eH, upd_same]) (by rw [eH, upd_ne ne, upd_same]) nd
  refine ⟨hp.objs.size + 1, _, _, ⟨G, g2, d2, t2, os⟩, _, .ref (He.ga X.K x), some dx, rfl, J, kG, ge, hoe, ⟨rfl, rfl, fun vs hv => ?_⟩, rfl, rfl, nn, rfl, bare, raises_own T.c.exC T.c.tyC, ?_⟩
  · cases hv; rfl
  · have e3 : upd (del H2 (hp.objs.size + 1)) dx (.xd [(f, y)]) = upd H1 dx (.xd [(f, y)]) := by
      funext b
      by_cases hd : b = dx
      · subst hd; rw [upd_same, upd_same]
      · rw [upd_ne hd, upd_ne hd]
        by_cases hb : b = hp.objs.size + 1
        · subst hb; rw [del_same, na]
        · rw [del_ne hb, eH, upd_ne hb, upd_ne hd, upd_ne hb]
    rw [e3]
    exact q dx nd
theorem de_xvK {x f : Str} {e : Expr} {m : ME} {p pk pos : Pos} (C : Ctx X W k) (T : XcF X.prog X.w X.K X.mg X.base x f) (hk : 2 ≤ k) (hg : Gl X x) (he : DE X W e m)
    (hall : (backToKw pos (keywordEach [⟨some f, e, pk⟩] X.env)).all (·.1.isSome) = true := by rfl) (hks : (backToKw pos (keywordEach [⟨some f, e, pk⟩] X.env)).filterMap (·.1) = [f] := by rfl) (hdb : (x == ("__debug__" : Str)) = false := by decide)
    (hpl : ((backTo pos (starEach [] X.env)).any (·.1) || (backToKw pos (keywordEach [⟨some f, e, pk⟩] X.env)).any (·.1.isNone)) = false := by rfl) : DE X W (.Call (.Name x p) [] [⟨some f, e, pk⟩] pos) (mXv x f m) := by
  refine PE.weak (pe_xvK T (C.room.mono hk) hg he hall hks hdb hpl) ?_
  rintro σ H Q ⟨F, ρ, st, env, ⟨R, E⟩, p⟩
  refine ⟨F, ρ, st, env, ⟨R, E⟩, Post.bind p fun u st1 y F1 ρ1 H1 _ ev R1 i1 p1 => ?_⟩
  split at p1
  · intro a d na nd ne
    cases i1 with
    | d i1 => exact made_ok R1 i1 na nd ne p1
  · exact p1.elim
theorem ds_raiseK {x f : Str} {e : Expr} {m : ME} {p pk pos pos' : Pos} (C : Ctx X W k) (T : XcF X.prog X.w X.K X.mg X.base x f) (hk : 2 ≤ k) (hg : Gl X x) (he : DE X W e m)
    (hall : (backToKw pos (keywordEach [⟨some f, e, pk⟩] X.env)).all (·.1.isSome) = true := by rfl) (hks : (backToKw pos (keywordEach [⟨some f, e, pk⟩] X.env)).filterMap (·.1) = [f] := by rfl) (hdb : (x == ("__debug__" : Str)) = false := by decide)
    (hpl : ((backTo pos (starEach [] X.env)).any (·.1) || (backToKw pos (keywordEach [⟨some f, e, pk⟩] X.env)).any (·.1.isNone)) = false := by rfl) : DS X W (.Raise (some (.Call (.Name x p) [] [⟨some f, e, pk⟩] pos)) none pos') (mRaise x f m) := by
  refine PS.weak (L2N.ps_raise C.calm C.tk (pmk_xK T (C.room.mono hk) hg he hall hks hdb hpl)) ?_
  rintro D σ H ⟨F, ρ, st, env, ⟨R, E⟩, p⟩
  refine ⟨F, ρ, st, env, ⟨R, E⟩, PostS.bind E p fun u st1 y F1 ρ1 H1 _ ev R1 i1 p1 => ?_⟩
  split at p1
  · intro d nd
    cases i1 with
    | d i1 =>
      have ev1 := Evo.new (o := .xd [(f, y)]) R1 nd
      exact p1 _ _ σ _ _ _ ev1 ⟨R1.new nd, (E.mono ev.fr ev.pre).mono ev1.fr ev1.pre⟩ ⟨rfl, d, y, rfl, upd_same, i1.mono ev1.fr⟩
  · exact p1.elim
end
end Dd

set_option Elab.async false
set_option linter.all false
set_option maxRecDepth 100000
set_option maxHeartbeats 2000000
/-! The written part's facts, by Bool. -/
namespace Dd
open PySem PySem.Spec PyProof.Rows L2

def excB (K : PySem.W.Frag) (xs : List (Str × Str)) : Bool := xs.all fun q => xcB K (He.ga K q.1) q.2 && (dB (PySem.W.findIn K (.ref (He.ga K q.1)) "__init__" = some (some (.ref (He.ma K (He.ga K q.1) "__init__")))) && dB (PySem.W.typeIn K (.ref (He.ma K (He.ga K q.1) "__init__")) = some (.type "function")))
def isB (K : PySem.W.Frag) (cv : Value) (tb : List ((Str × Str) × Bool)) : Bool := tb.all fun q => dB (PySem.W.kitOne K (.ref (He.ga K q.1.1)) cv = some q.2)
def exB (K : PySem.W.Frag) (D : Str) (tt : List (Str × Bool)) : Bool := tt.all fun q => dB (PySem.W.exmOne K (.ref (He.ga K q.1)) (.ref (He.ga K D)) = some q.2)
section
variable {P : Program} {w : World} {K : PySem.W.Frag} {mg : Str → Option Value} {base : Heap}
theorem excB_all {xs : List (Str × Str)} (h : excB K xs = true) : XcAll K xs := fun c f hm => xcB_ok (Bool.and_eq_true_iff.mp (List.all_eq_true.mp h (c, f) hm)).1
theorem excB_init {xs : List (Str × Str)} (h : excB K xs = true) {c f : Str} (hm : (c, f) ∈ xs) : PySem.W.findIn K (.ref (He.ga K c)) "__init__" = some (some (.ref (He.ma K (He.ga K c) "__init__"))) ∧ PySem.W.typeIn K (.ref (He.ma K (He.ga K c) "__init__")) = some (.type "function") := by
  have h2 := Bool.and_eq_true_iff.mp (Bool.and_eq_true_iff.mp (List.all_eq_true.mp h (c, f) hm)).2
  exact ⟨of_decide_eq_true h2.1, of_decide_eq_true h2.2⟩
theorem isB_tab {xs : List (Str × Str)} {cv : Value} {tb : List ((Str × Str) × Bool)} (hx : XcAll K xs) (hs : ∀ q ∈ tb, q.1 ∈ xs) (h : isB K cv tb = true) : IsTab K cv tb := fun c f b hm => ⟨hx c f (hs _ hm), of_decide_eq_true (List.all_eq_true.mp h ((c, f), b) hm)⟩
theorem exB_ok {D : Str} {tt : List (Str × Bool)} (h : exB K D tt = true) : ∀ y b, (y, b) ∈ tt → PySem.W.exmOne K (.ref (He.ga K y)) (.ref (He.ga K D)) = some b := fun y b hm => of_decide_eq_true (List.all_eq_true.mp h (y, b) hm)
theorem xcF_of {x f qual : Str} {params : Arguments} {scope : Scope} {fd : FuncData} {p1 p2 p3 p4 : Pos} {xs : List (Str × Str)} (hm : mg x = some (.ref (He.ga K x))) (hx : excB K xs = true) (hxs : (x, f) ∈ xs)
    (F : FunD K "__init__" qual params [.Assign [.Attribute (.Name "self" p1) f p2] (.Name f p3) p4] scope [] [] (He.ma K (He.ga K x) "__init__") fd) (S : FnScope ["self", f] ["self", f] scope)
    (h1 : scope.names.lookup ("self" : Str) = some .local) (h2 : scope.names.lookup f = some .local) (h3 : (f == ("__debug__" : Str)) = false) (h4 : (f == ("__classdict__" : Str)) = false)
    (hb : ∀ (kV doc pm : Value) (an : Option Addr) (cdv ct : Value) (us : List Value), us.length = 2 → bindArgs (PySem.W.fnOf "__init__" qual params [.Assign [.Attribute (.Name "self" p1) f p2] (.Name f p3) p4] scope .none kV doc pm an cdv ct) ⟨us, []⟩ = pure ((["self", f] : List Str).zip us))
    (hk : ∀ (kV doc pm : Value) (an : Option Addr) (cdv ct e u : Value), bindArgs (PySem.W.fnOf "__init__" qual params [.Assign [.Attribute (.Name "self" p1) f p2] (.Name f p3) p4] scope .none kV doc pm an cdv ct) ⟨[e], [(f, u)]⟩ = pure ([("self", e), (f, u)] : List (Str × Value))) : XcF P w K mg base x f := by
  have i := excB_init hx hxs
  have c := excB_all hx x f hxs
  refine ⟨hm, c, _, fd, i.1, i.2, fn_init c F S h1 h2 h3 h4, F.bindsN hb, fun s e u => ?_⟩
  obtain ⟨oc, od, dV, kV, doc, pm, an, cdv, ct, osl, rfl, lk, hcd, hD, hK⟩ := F.ex
  rcases hD with ⟨_, rfl⟩ | ⟨e', _⟩
  · exact .of_eq (hk kV doc pm an cdv ct e u)
  · exact absurd rfl e'
end
end Dd

set_option Elab.async false
set_option linter.all false
set_option maxRecDepth 100000
set_option maxHeartbeats 4000000
namespace G
open PySem PySem.Spec PyProof.Rows L2 Dd
def top (i : Nat) : Stmt := PySem.Challenge.pw_fewfolds_k00_errors.main.body.getD i (.Pass ⟨0, 0, 0, 0⟩)
def cdef (s : Stmt) : Stmt := match s with
  | .ClassDef _ _ _ b _ _ _ _ _ _ _ => b.headD s
  | _ => s
def xtab : List (Str × Str) := [("BadNumber", "thing"), ("BadNumbers", "thing"), ("BadPoly", "thing"), ("BadPrime", "thing"), ("BadRow", "thing"), ("BadTable", "thing"), ("BadText", "at"), ("BadWord", "thing"), ("Lost", "row"), ("OtherTable", "thing")]
def tb_BadNumber : List ((Str × Str) × Bool) := [(("BadNumber", "thing"), true), (("BadNumbers", "thing"), false), (("BadPoly", "thing"), false), (("BadPrime", "thing"), false), (("BadRow", "thing"), false), (("BadTable", "thing"), false), (("BadText", "at"), false), (("BadWord", "thing"), false), (("Lost", "row"), false), (("OtherTable", "thing"), false)]
def tb_BadNumbers : List ((Str × Str) × Bool) := [(("BadNumber", "thing"), false), (("BadNumbers", "thing"), true), (("BadPoly", "thing"), false), (("BadPrime", "thing"), false), (("BadRow", "thing"), false), (("BadTable", "thing"), false), (("BadText", "at"), false), (("BadWord", "thing"), false), (("Lost", "row"), false), (("OtherTable", "thing"), false)]
def tb_BadPoly : List ((Str × Str) × Bool) := [(("BadNumber", "thing"), false), (("BadNumbers", "thing"), false), (("BadPoly", "thing"), true), (("BadPrime", "thing"), false), (("BadRow", "thing"), false), (("BadTable", "thing"), false), (("BadText", "at"), false), (("BadWord", "thing"), false), (("Lost", "row"), false), (("OtherTable", "thing"), false)]
def tb_BadPrime : List ((Str × Str) × Bool) := [(("BadNumber", "thing"), false), (("BadNumbers", "thing"), false), (("BadPoly", "thing"), false), (("BadPrime", "thing"), true), (("BadRow", "thing"), false), (("BadTable", "thing"), false), (("BadText", "at"), false), (("BadWord", "thing"), false), (("Lost", "row"), false), (("OtherTable", "thing"), false)]
def tb_BadRow : List ((Str × Str) × Bool) := [(("BadNumber", "thing"), false), (("BadNumbers", "thing"), false), (("BadPoly", "thing"), false), (("BadPrime", "thing"), false), (("BadRow", "thing"), true), (("BadTable", "thing"), false), (("BadText", "at"), false), (("BadWord", "thing"), false), (("Lost", "row"), false), (("OtherTable", "thing"), false)]
def tb_BadTable : List ((Str × Str) × Bool) := [(("BadNumber", "thing"), false), (("BadNumbers", "thing"), false), (("BadPoly", "thing"), false), (("BadPrime", "thing"), false), (("BadRow", "thing"), false), (("BadTable", "thing"), true), (("BadText", "at"), false), (("BadWord", "thing"), false), (("Lost", "row"), false), (("OtherTable", "thing"), false)]
def tb_BadText : List ((Str × Str) × Bool) := [(("BadNumber", "thing"), false), (("BadNumbers", "thing"), false), (("BadPoly", "thing"), false), (("BadPrime", "thing"), false), (("BadRow", "thing"), false), (("BadTable", "thing"), false), (("BadText", "at"), true), (("BadWord", "thing"), false), (("Lost", "row"), false), (("OtherTable", "thing"), false)]
def tb_BadWord : List ((Str × Str) × Bool) := [(("BadNumber", "thing"), false), (("BadNumbers", "thing"), false), (("BadPoly", "thing"), false), (("BadPrime", "thing"), false), (("BadRow", "thing"), false), (("BadTable", "thing"), false), (("BadText", "at"), false), (("BadWord", "thing"), true), (("Lost", "row"), false), (("OtherTable", "thing"), false)]
def tb_Exception : List ((Str × Str) × Bool) := [(("BadNumber", "thing"), true), (("BadNumbers", "thing"), true), (("BadPoly", "thing"), true), (("BadPrime", "thing"), true), (("BadRow", "thing"), true), (("BadTable", "thing"), true), (("BadText", "at"), true), (("BadWord", "thing"), true), (("Lost", "row"), true), (("OtherTable", "thing"), true)]
def tb_LookupError : List ((Str × Str) × Bool) := [(("BadNumber", "thing"), false), (("BadNumbers", "thing"), false), (("BadPoly", "thing"), false), (("BadPrime", "thing"), false), (("BadRow", "thing"), false), (("BadTable", "thing"), false), (("BadText", "at"), false), (("BadWord", "thing"), false), (("Lost", "row"), false), (("OtherTable", "thing"), false)]
def tb_Lost : List ((Str × Str) × Bool) := [(("BadNumber", "thing"), false), (("BadNumbers", "thing"), false), (("BadPoly", "thing"), false), (("BadPrime", "thing"), false), (("BadRow", "thing"), false), (("BadTable", "thing"), false), (("BadText", "at"), false), (("BadWord", "thing"), false), (("Lost", "row"), true), (("OtherTable", "thing"), false)]
def tb_OtherTable : List ((Str × Str) × Bool) := [(("BadNumber", "thing"), false), (("BadNumbers", "thing"), false), (("BadPoly", "thing"), false), (("BadPrime", "thing"), false), (("BadRow", "thing"), false), (("BadTable", "thing"), false), (("BadText", "at"), false), (("BadWord", "thing"), false), (("Lost", "row"), false), (("OtherTable", "thing"), true)]
def tb_TableError : List ((Str × Str) × Bool) := [(("BadNumber", "thing"), true), (("BadNumbers", "thing"), true), (("BadPoly", "thing"), true), (("BadPrime", "thing"), true), (("BadRow", "thing"), true), (("BadTable", "thing"), true), (("BadText", "at"), true), (("BadWord", "thing"), true), (("Lost", "row"), true), (("OtherTable", "thing"), true)]
def tb_ValueError : List ((Str × Str) × Bool) := [(("BadNumber", "thing"), false), (("BadNumbers", "thing"), false), (("BadPoly", "thing"), false), (("BadPrime", "thing"), false), (("BadRow", "thing"), false), (("BadTable", "thing"), false), (("BadText", "at"), false), (("BadWord", "thing"), false), (("Lost", "row"), false), (("OtherTable", "thing"), false)]
/-! ### what the written part says -/
structure Tf (P : Program) (w : World) (K : PySem.W.Frag) (mg : Str → Option Value) (base : Heap) : Prop where
  sys : ∃ o, base.get? sysModules = some o
  F_law_deck : ∃ f fd, FunD K "_law_deck" "_law_deck" (defArgs (top 13)) (defBody (top 13)) (defScope (top 13)) [] [] f fd ∧ mg "_law_deck" = some (.ref f)
  F_law_draw : ∃ f fd, FunD K "_law_draw" "_law_draw" (defArgs (top 14)) (defBody (top 14)) (defScope (top 14)) [] [] f fd ∧ mg "_law_draw" = some (.ref f)
  F_law_pick : ∃ f fd, FunD K "_law_pick" "_law_pick" (defArgs (top 15)) (defBody (top 15)) (defScope (top 15)) [] [] f fd ∧ mg "_law_pick" = some (.ref f)
  F_law_odd : ∃ f fd, FunD K "_law_odd" "_law_odd" (defArgs (top 16)) (defBody (top 16)) (defScope (top 16)) [] [] f fd ∧ mg "_law_odd" = some (.ref f)
  F_law_made : ∃ f fd, FunD K "_law_made" "_law_made" (defArgs (top 17)) (defBody (top 17)) (defScope (top 17)) [] [] f fd ∧ mg "_law_made" = some (.ref f)
  F_law_classes : ∃ f fd, FunD K "_law_classes" "_law_classes" (defArgs (top 18)) (defBody (top 18)) (defScope (top 18)) [] [] f fd ∧ mg "_law_classes" = some (.ref f)
  F_law_caught : ∃ f fd, FunD K "_law_caught" "_law_caught" (defArgs (top 19)) (defBody (top 19)) (defScope (top 19)) [] [] f fd ∧ mg "_law_caught" = some (.ref f)
  F_law : ∃ f fd, FunD K "law" "law" (defArgs (top 20)) (defBody (top 20)) (defScope (top 20)) [] [] f fd ∧ mg "law" = some (.ref f)
  b_Exception : mg "Exception" = none
  b_LookupError : mg "LookupError" = none
  b_ValueError : mg "ValueError" = none
  b_abs : mg "abs" = none
  b_int : mg "int" = none
  b_isinstance : mg "isinstance" = none
  b_len : mg "len" = none
  b_list : mg "list" = none
  b_max : mg "max" = none
  b_range : mg "range" = none
  b_repr : mg "repr" = none
  b_str : mg "str" = none
  b_tuple : mg "tuple" = none
  m_BadNumber : mg "BadNumber" = some (.ref (He.ga K "BadNumber"))
  m_BadNumbers : mg "BadNumbers" = some (.ref (He.ga K "BadNumbers"))
  m_BadPoly : mg "BadPoly" = some (.ref (He.ga K "BadPoly"))
  m_BadPrime : mg "BadPrime" = some (.ref (He.ga K "BadPrime"))
  m_BadRow : mg "BadRow" = some (.ref (He.ga K "BadRow"))
  m_BadTable : mg "BadTable" = some (.ref (He.ga K "BadTable"))
  m_BadText : mg "BadText" = some (.ref (He.ga K "BadText"))
  m_BadWord : mg "BadWord" = some (.ref (He.ga K "BadWord"))
  m_Lost : mg "Lost" = some (.ref (He.ga K "Lost"))
  m_OtherTable : mg "OtherTable" = some (.ref (He.ga K "OtherTable"))
  m_TableError : mg "TableError" = some (.ref (He.ga K "TableError"))
  x_BadNumber : XcF P w K mg base "BadNumber" "thing"
  x_BadNumbers : XcF P w K mg base "BadNumbers" "thing"
  x_BadPoly : XcF P w K mg base "BadPoly" "thing"
  x_BadPrime : XcF P w K mg base "BadPrime" "thing"
  x_BadRow : XcF P w K mg base "BadRow" "thing"
  x_BadTable : XcF P w K mg base "BadTable" "thing"
  x_BadText : XcF P w K mg base "BadText" "at"
  x_BadWord : XcF P w K mg base "BadWord" "thing"
  x_Lost : XcF P w K mg base "Lost" "row"
  x_OtherTable : XcF P w K mg base "OtherTable" "thing"
  xall : XcAll K xtab
  i_BadNumber : IsTab K (.ref (He.ga K "BadNumber")) tb_BadNumber
  i_BadNumbers : IsTab K (.ref (He.ga K "BadNumbers")) tb_BadNumbers
  i_BadPoly : IsTab K (.ref (He.ga K "BadPoly")) tb_BadPoly
  i_BadPrime : IsTab K (.ref (He.ga K "BadPrime")) tb_BadPrime
  i_BadRow : IsTab K (.ref (He.ga K "BadRow")) tb_BadRow
  i_BadTable : IsTab K (.ref (He.ga K "BadTable")) tb_BadTable
  i_BadText : IsTab K (.ref (He.ga K "BadText")) tb_BadText
  i_BadWord : IsTab K (.ref (He.ga K "BadWord")) tb_BadWord
  i_Exception : IsTab K (.type "Exception") tb_Exception
  i_LookupError : IsTab K (.type "LookupError") tb_LookupError
  i_Lost : IsTab K (.ref (He.ga K "Lost")) tb_Lost
  i_OtherTable : IsTab K (.ref (He.ga K "OtherTable")) tb_OtherTable
  i_TableError : IsTab K (.ref (He.ga K "TableError")) tb_TableError
  i_ValueError : IsTab K (.type "ValueError") tb_ValueError
  e_BadTable : ∀ y b, (y, b) ∈ ([("BadNumber", false), ("BadNumbers", false), ("BadPoly", false), ("BadPrime", false), ("BadRow", false), ("BadTable", true), ("BadText", false), ("BadWord", false), ("Lost", false), ("OtherTable", false)] : List (Str × Bool)) → PySem.W.exmOne K (.ref (He.ga K y)) (.ref (He.ga K "BadTable")) = some b
  e_BadText : ∀ y b, (y, b) ∈ ([("BadNumber", false), ("BadNumbers", false), ("BadPoly", false), ("BadPrime", false), ("BadRow", false), ("BadTable", false), ("BadText", true), ("BadWord", false), ("Lost", false), ("OtherTable", false)] : List (Str × Bool)) → PySem.W.exmOne K (.ref (He.ga K y)) (.ref (He.ga K "BadText")) = some b
  e_Lost : ∀ y b, (y, b) ∈ ([("BadNumber", false), ("BadNumbers", false), ("BadPoly", false), ("BadPrime", false), ("BadRow", false), ("BadTable", false), ("BadText", false), ("BadWord", false), ("Lost", true), ("OtherTable", false)] : List (Str × Bool)) → PySem.W.exmOne K (.ref (He.ga K y)) (.ref (He.ga K "Lost")) = some b
  e_TableError : ∀ y b, (y, b) ∈ ([("BadNumber", true), ("BadNumbers", true), ("BadPoly", true), ("BadPrime", true), ("BadRow", true), ("BadTable", true), ("BadText", true), ("BadWord", true), ("Lost", true), ("OtherTable", true)] : List (Str × Bool)) → PySem.W.exmOne K (.ref (He.ga K y)) (.ref (He.ga K "TableError")) = some b
section
variable {P : Program} {w : World} {K : PySem.W.Frag} {mg : Str → Option Value} {base : Heap}
/-! ### _law_deck -/
noncomputable def b_law_deck : MS :=
  (mSeq (mSet 1 (mD (.int 10899000)))
  (mSeq (mFor (mIt (mSlA false (mVar 0) mNoPart (mPart (mD (.int 63))))) (gN 2)
  (mSeq (mSet 1 (mBin dMod (mC fInt (mCons (mBin dAdd (mBin dAdd (mBin (dMul false) (mVar 1) (mD (.int 48271))) (mBin dMod (mC fInt (mCons (mVar 2) mNil)) (mD (.int 2147483629)))) (mD (.int 71))) mNil)) (mD (.int 2147483587))))
  mSkip))
  (mSeq (mRet (mDict [((mD (.str "cells")), (mRevA true (mC (fList true) (mCons (mSlA false (mVar 0) mNoPart (mPart (mD (.int 63)))) mNil)))), ((mD (.str "mixed")), (mVar 1)), ((mD (.str "draws")), (mD (.int 0)))]))
  mSkip)))
noncomputable def m_law_deck : MF := mFun 3 b_law_deck
theorem sc_law_deck : FnScope ["script", "mixed", "cell"] ["script"] (defScope (top 13)) := ⟨rfl, rfl, rfl, by decide +kernel, rfl, by decide +kernel, by decide +kernel⟩
theorem fg_law_deck (T : Tf P w K mg base) : Fg P w K mg base 1 "_law_deck" 1 [] m_law_deck := by
  obtain ⟨f, fd, F, hm⟩ := T.F_law_deck
  exact fg_of (k := 0) F hm sc_law_deck T.sys (fun _ _ _ _ _ _ us hl => match us, hl with | [_], _ => rfl) (fun cdv A outer s H E C hp =>
    (ds_cons (ds_set 1 C.nd de_int)
    (ds_cons (ds_for hp C.calm (di_seq (de_slA false (de_var 0) do_none (do_some de_int))) (dg_name (vs := [2]) 2 C.nd)
    (ds_cons (ds_set 1 C.nd (de_mod (de_callTy call_int1 dc_int rfl T.b_int (by decide +kernel) (da_cons (de_add (de_add (de_mul false (de_var 1) de_int) (de_mod (de_callTy call_int1 dc_int rfl T.b_int (by decide +kernel) (da_cons (de_var 2) da_nil)) de_int)) de_int) da_nil)) de_int))
    ds_nil))
    (ds_cons (ds_ret (de_dict (pps_cons de_str (de_revA true (de_callTy call_list_of (dc_list (s := true)) rfl T.b_list (by decide +kernel) (da_cons (de_slA false (de_var 0) do_none (do_some de_int)) da_nil))) (pps_cons de_str (de_var 1) (pps_cons de_str de_int pps_nil)))))
    ds_nil))))
/-! ### _law_draw -/
noncomputable def b_law_draw : MS :=
  (mSeq (mPut (mVar 0) (mD (.str "draws")) (mBin dAdd (mBin dKey (mVar 0) (mD (.str "draws"))) (mD (.int 1))))
  (mSeq (mSet 2 (mBin dAdd (mBin dKey (mVar 0) (mD (.str "mixed"))) (mBin (dMul false) (mD (.int 69621)) (mBin dKey (mVar 0) (mD (.str "draws"))))))
  (mSeq (mIfS (mTest (mBin (dEq true) (mBin dKey (mVar 0) (mD (.str "cells"))) (mLst false mNil)))
  (mSeq (mSet 3 (mMethL fPop (mBin dKey (mVar 0) (mD (.str "cells"))) mNil))
  (mSeq (mIfS (mTest (mBin dGe (mVar 3) (mBin dPow (mD (.int 10)) (mD (.int 18)))))
  (mSeq (mExpr (mMethL fAppend (mBin dKey (mVar 0) (mD (.str "cells"))) (mCons (mBin dFdiv (mVar 3) (mC fMax2 (mCons (mD (.int 2)) (mCons (mVar 1) mNil)))) mNil)))
  (mSeq (mRet (mBin dMod (mC fInt (mCons (mVar 3) mNil)) (mVar 1)))
  mSkip))
  mSkip)
  (mSeq (mSet 2 (mBin dAdd (mVar 2) (mBin dMod (mC fInt (mCons (mVar 3) mNil)) (mD (.int 2147483629)))))
  mSkip)))
  mSkip)
  (mSeq (mSet 2 (mBin dMod (mC fInt (mCons (mBin dAdd (mBin (dMul false) (mVar 2) (mD (.int 39373))) (mD (.int 83))) mNil)) (mD (.int 2147483647))))
  (mSeq (mSet 2 (mBin dMod (mC fInt (mCons (mBin dAdd (mBin dAdd (mBin (dMul false) (mVar 2) (mVar 2)) (mBin (dMul false) (mD (.int 52713)) (mBin dKey (mVar 0) (mD (.str "draws"))))) (mD (.int 29))) mNil)) (mD (.int 2147483587))))
  (mSeq (mSet 2 (mBin dMod (mC fInt (mCons (mBin (dMul false) (mVar 2) (mD (.int 40692))) mNil)) (mD (.int 2147483563))))
  (mSeq (mRet (mBin dMod (mC fInt (mCons (mBin dFdiv (mVar 2) (mD (.int 64))) mNil)) (mVar 1)))
  mSkip)))))))
noncomputable def m_law_draw : MF := mFun 4 b_law_draw
theorem sc_law_draw : FnScope ["deck", "many", "number", "cell"] ["deck", "many"] (defScope (top 14)) := ⟨rfl, rfl, rfl, by decide +kernel, rfl, by decide +kernel, by decide +kernel⟩
theorem fg_law_draw (T : Tf P w K mg base) : Fg P w K mg base 1 "_law_draw" 2 [] m_law_draw := by
  obtain ⟨f, fd, F, hm⟩ := T.F_law_draw
  exact fg_of (k := 0) F hm sc_law_draw T.sys (fun _ _ _ _ _ _ us hl => match us, hl with | [_, _], _ => rfl) (fun cdv A outer s H E C hp =>
    (ds_cons (ds_put C (de_var 0) de_str (de_add (de_key C (de_var 0) de_str) de_int))
    (ds_cons (ds_set 2 C.nd (de_add (de_key C (de_var 0) de_str) (de_mul false de_int (de_key C (de_var 0) de_str))))
    (ds_cons (ds_if (dt_cmp (op_neB C.hu) d2_eq (de_key C (de_var 0) de_str) (de_lst false da_nil) rfl)
    (ds_cons (ds_set 3 C.nd (de_pop (de_key C (de_var 0) de_str)))
    (ds_cons (ds_if (dt_cmp op_ge d2_rel (de_var 3) (de_pow de_int de_int) rfl)
    (ds_cons (ds_expr (de_append (de_key C (de_var 0) de_str) (de_fdiv (de_var 3) (de_callB (call_max2 C.calm) dc_max2 rfl T.b_max (by decide +kernel) (da_cons de_int (da_cons (de_var 1) da_nil))))))
    (ds_cons (ds_ret (de_mod (de_callTy call_int1 dc_int rfl T.b_int (by decide +kernel) (da_cons (de_var 3) da_nil)) (de_var 1)))
    ds_nil))
    ds_nil)
    (ds_cons (ds_set 2 C.nd (de_add (de_var 2) (de_mod (de_callTy call_int1 dc_int rfl T.b_int (by decide +kernel) (da_cons (de_var 3) da_nil)) de_int)))
    ds_nil)))
    ds_nil)
    (ds_cons (ds_set 2 C.nd (de_mod (de_callTy call_int1 dc_int rfl T.b_int (by decide +kernel) (da_cons (de_add (de_mul false (de_var 2) de_int) de_int) da_nil)) de_int))
    (ds_cons (ds_set 2 C.nd (de_mod (de_callTy call_int1 dc_int rfl T.b_int (by decide +kernel) (da_cons (de_add (de_add (de_mul false (de_var 2) (de_var 2)) (de_mul false de_int (de_key C (de_var 0) de_str))) de_int) da_nil)) de_int))
    (ds_cons (ds_set 2 C.nd (de_mod (de_callTy call_int1 dc_int rfl T.b_int (by decide +kernel) (da_cons (de_mul false (de_var 2) de_int) da_nil)) de_int))
    (ds_cons (ds_ret (de_mod (de_callTy call_int1 dc_int rfl T.b_int (by decide +kernel) (da_cons (de_fdiv (de_var 2) de_int) da_nil)) (de_var 1)))
    ds_nil))))))))
/-! ### _law_pick -/
noncomputable def b_law_pick : MS :=
  (mSeq (mRet (mBin dIx (mVar 1) (mCallS m_law_draw [] (mCons (mVar 0) (mCons (mC fLen (mCons (mVar 1) mNil)) mNil)))))
  mSkip)
noncomputable def m_law_pick : MF := mFun 2 b_law_pick
theorem sc_law_pick : FnScope ["deck", "some"] ["deck", "some"] (defScope (top 15)) := ⟨rfl, rfl, rfl, by decide +kernel, rfl, by decide +kernel, by decide +kernel⟩
theorem fg_law_pick (T : Tf P w K mg base) : Fg P w K mg base 2 "_law_pick" 2 [] m_law_pick := by
  obtain ⟨f, fd, F, hm⟩ := T.F_law_pick
  exact fg_of (k := 1) F hm sc_law_pick T.sys (fun _ _ _ _ _ _ us hl => match us, hl with | [_, _], _ => rfl) (fun cdv A outer s H E C hp =>
    (ds_cons (ds_ret (de_ix (de_var 1) (de_callS 0 ((fg_law_draw T).mono (by decide)) C rfl (da_cons (de_var 0) (da_cons (de_callB call_len dc_len rfl T.b_len (by decide +kernel) (da_cons (de_var 1) da_nil)) da_nil)) (by decide) rfl (hal := len_cons (len_cons (fun _ _ _ _ h => len_nil h))))))
    ds_nil))
/-! ### _law_odd -/
noncomputable def b_law_odd : MS :=
  (mSeq (mSet 2 (mLst false (mCons (mD .none) (mCons (mD (.bool true)) (mCons (mD (.bool false)) (mCons (mD (.int 0)) (mCons (mD (.int 1)) (mCons (mNeg (mD (.int 1))) (mCons (mD (.int 2)) (mCons (mD (.int 4)) (mCons (mD (.str "")) (mCons (mD (.str "table")) (mCons (mTup mNil) (mCons (mTup (mCons (mTup mNil) mNil)) (mCons (mLst false mNil) (mCons (mFrz mNewK) (mCons (mTup (mCons (mD (.int 0)) mNil)) (mCons (mTup (mCons (mD (.int 1)) (mCons (mD (.int 0)) mNil))) (mCons (mLst false (mCons (mD (.int 1)) (mCons (mD (.int 0)) mNil))) (mCons (mBin dPow (mD (.int 10)) (mD (.int 39))) (mCons (mD (.int 7)) (mCons (mD (.int 9)) mNil))))))))))))))))))))))
  (mSeq (mSet 2 (mBin dAdd (mVar 2) (mLst false (mCons (mTup (mCons (mTup (mCons (mD (.int 1)) mNil)) mNil)) (mCons (mTup (mCons (mTup (mCons (mD (.int 1)) (mCons (mD (.int 0)) mNil))) (mCons (mTup (mCons (mD (.int 0)) (mCons (mD (.int 1)) mNil))) mNil))) (mCons (mLst false (mCons (mD (.int 1)) mNil)) (mCons (mFrz (mDict [((mD (.str "a")), (mTup (mCons (mD (.int 1)) (mCons (mD (.int 2)) mNil))))])) (mCons (mTup (mCons (mD (.int 2)) (mCons (mTup (mCons (mTup (mCons (mD (.int 1)) mNil)) mNil)) mNil))) (mCons (mTup (mCons (mD (.str "1")) (mCons (mD (.int 2)) mNil))) (mCons (mTup (mCons (mD .none) (mCons (mD (.int 1)) mNil))) (mCons (mD (.str "a b\n~")) (mCons (mTup (mCons (mD (.int 1)) (mCons (mD (.bool true)) mNil))) (mCons (mD (.str "12")) mNil)))))))))))))
  (mSeq (mIfS (mTest (mIs "tuple" (mVar 1)))
  (mSeq (mSet 2 (mBin dAdd (mVar 2) (mBin (dMul false) (mLst false (mCons (mC (fList false) (mCons (mVar 1) mNil)) (mCons (mBin dAdd (mVar 1) (mTup (mCons (mD (.int 0)) mNil))) (mCons (mSlA false (mVar 1) (mPart (mD (.int 1))) mNoPart) (mCons (mSlA false (mVar 1) mNoPart (mPart (mNeg (mD (.int 1))))) (mCons (mRevA false (mVar 1)) (mCons (mBin dAdd (mVar 1) (mSlA false (mVar 1) mNoPart (mPart (mD (.int 1))))) (mCons (mTup (mCons (mVar 1) mNil)) (mCons (mBin dAdd (mSlA false (mVar 1) mNoPart (mPart (mD (.int 1)))) (mVar 1)) mNil))))))))) (mD (.int 3)))))
  mSkip)
  (mSeq (mIfS (mAnd (mTest (mIs "int" (mVar 1))) (mTest (mBin dLt (mC fAbs (mCons (mVar 1) mNil)) (mBin dPow (mD (.int 10)) (mD (.int 30))))))
  (mSeq (mSet 2 (mBin dAdd (mVar 2) (mBin (dMul false) (mLst false (mCons (mBin dAdd (mVar 1) (mD (.int 1))) (mCons (mBin dSub (mVar 1) (mD (.int 1))) (mCons (mNeg (mVar 1)) (mCons (mBin (dEq false) (mVar 1) (mD (.int 1))) (mCons (mBin (dEq true) (mVar 1) (mD (.int 0))) (mCons (mLst false (mCons (mVar 1) mNil)) (mCons (mTup (mCons (mVar 1) mNil)) (mCons (mC fStr (mCons (mVar 1) mNil)) (mCons (mBin dAdd (mVar 1) (mD (.int 7))) mNil)))))))))) (mD (.int 3)))))
  mSkip)
  (mSeq (mIfS (mTest (mIs "str" (mVar 1)))
  (mSeq (mSet 2 (mBin dAdd (mVar 2) (mBin (dMul false) (mLst false (mCons (mBin dAdd (mVar 1) (mD (.str " "))) (mCons (mSlA false (mVar 1) (mPart (mD (.int 1))) mNoPart) (mCons (mUpper (mVar 1)) (mCons (mLst false (mCons (mVar 1) mNil)) (mCons (mTup (mCons (mVar 1) mNil)) (mCons (mBin dAdd (mVar 1) (mVar 1)) mNil))))))) (mD (.int 2)))))
  mSkip)
  mSkip)
  mSkip))
  mSkip))
  (mSeq (mRet (mCallS m_law_pick [] (mCons (mVar 0) (mCons (mVar 2) mNil))))
  mSkip))))
noncomputable def m_law_odd : MF := mFun 3 b_law_odd
theorem sc_law_odd : FnScope ["deck", "it", "some"] ["deck", "it"] (defScope (top 16)) := ⟨rfl, rfl, rfl, by decide +kernel, rfl, by decide +kernel, by decide +kernel⟩
theorem fg_law_odd (T : Tf P w K mg base) : Fg P w K mg base 3 "_law_odd" 2 [] m_law_odd := by
  obtain ⟨f, fd, F, hm⟩ := T.F_law_odd
  exact fg_of (k := 2) F hm sc_law_odd T.sys (fun _ _ _ _ _ _ us hl => match us, hl with | [_, _], _ => rfl) (fun cdv A outer s H E C hp =>
    (ds_cons (ds_set 2 C.nd (de_lst false (da_cons de_non (da_cons de_bl (da_cons de_bl (da_cons de_int (da_cons de_int (da_cons (de_neg de_int) (da_cons de_int (da_cons de_int (da_cons de_str (da_cons de_str (da_cons (de_tup da_nil) (da_cons (de_tup (da_cons (de_tup da_nil) da_nil)) (da_cons (de_lst false da_nil) (da_cons (de_frz de_newK) (da_cons (de_tup (da_cons de_int da_nil)) (da_cons (de_tup (da_cons de_int (da_cons de_int da_nil))) (da_cons (de_lst false (da_cons de_int (da_cons de_int da_nil))) (da_cons (de_pow de_int de_int) (da_cons de_int (da_cons de_int da_nil))))))))))))))))))))))
    (ds_cons (ds_set 2 C.nd (de_add (de_var 2) (de_lst false (da_cons (de_tup (da_cons (de_tup (da_cons de_int da_nil)) da_nil)) (da_cons (de_tup (da_cons (de_tup (da_cons de_int (da_cons de_int da_nil))) (da_cons (de_tup (da_cons de_int (da_cons de_int da_nil))) da_nil))) (da_cons (de_lst false (da_cons de_int da_nil)) (da_cons (de_frz (de_dict (pps_cons de_str (de_tup (da_cons de_int (da_cons de_int da_nil))) pps_nil))) (da_cons (de_tup (da_cons de_int (da_cons (de_tup (da_cons (de_tup (da_cons de_int da_nil)) da_nil)) da_nil))) (da_cons (de_tup (da_cons de_str (da_cons de_int da_nil))) (da_cons (de_tup (da_cons de_non (da_cons de_int da_nil))) (da_cons de_str (da_cons (de_tup (da_cons de_int (da_cons de_bl da_nil))) (da_cons de_str da_nil)))))))))))))
    (ds_cons (ds_if (dt_val (de_is rfl T.b_isinstance rfl T.b_tuple (by decide +kernel) (de_var 1)))
    (ds_cons (ds_set 2 C.nd (de_add (de_var 2) (de_mul false (de_lst false (da_cons (de_callTy call_list_of (dc_list (s := false)) rfl T.b_list (by decide +kernel) (da_cons (de_var 1) da_nil)) (da_cons (de_add (de_var 1) (de_tup (da_cons de_int da_nil))) (da_cons (de_slA false (de_var 1) (do_some de_int) do_none) (da_cons (de_slA false (de_var 1) do_none (do_some (de_neg de_int))) (da_cons (de_revA false (de_var 1)) (da_cons (de_add (de_var 1) (de_slA false (de_var 1) do_none (do_some de_int))) (da_cons (de_tup (da_cons (de_var 1) da_nil)) (da_cons (de_add (de_slA false (de_var 1) do_none (do_some de_int)) (de_var 1)) da_nil))))))))) de_int)))
    ds_nil)
    (ds_cons (ds_if (dt_w (dw_and (dt_val (de_is rfl T.b_isinstance rfl T.b_int (by decide +kernel) (de_var 1))) (dw_and1 (dt_cmp op_lt d2_rel (de_callB call_abs dc_abs rfl T.b_abs (by decide +kernel) (da_cons (de_var 1) da_nil)) (de_pow de_int de_int) rfl))))
    (ds_cons (ds_set 2 C.nd (de_add (de_var 2) (de_mul false (de_lst false (da_cons (de_add (de_var 1) de_int) (da_cons (de_sub (de_var 1) de_int) (da_cons (de_neg (de_var 1)) (da_cons (de_cmp (op_eqB C.hu) d2_eq (de_var 1) de_int rfl) (da_cons (de_cmp (op_neB C.hu) d2_eq (de_var 1) de_int rfl) (da_cons (de_lst false (da_cons (de_var 1) da_nil)) (da_cons (de_tup (da_cons (de_var 1) da_nil)) (da_cons (de_callTy call_strA dc_str rfl T.b_str (by decide +kernel) (da_cons (de_var 1) da_nil)) (da_cons (de_add (de_var 1) de_int) da_nil)))))))))) de_int)))
    ds_nil)
    (ds_cons (ds_if (dt_val (de_is rfl T.b_isinstance rfl T.b_str (by decide +kernel) (de_var 1)))
    (ds_cons (ds_set 2 C.nd (de_add (de_var 2) (de_mul false (de_lst false (da_cons (de_add (de_var 1) de_str) (da_cons (de_slA false (de_var 1) (do_some de_int) do_none) (da_cons (de_upper (de_var 1)) (da_cons (de_lst false (da_cons (de_var 1) da_nil)) (da_cons (de_tup (da_cons (de_var 1) da_nil)) (da_cons (de_add (de_var 1) (de_var 1)) da_nil))))))) de_int)))
    ds_nil)
    ds_nil)
    ds_nil))
    ds_nil))
    (ds_cons (ds_ret (de_callS 0 ((fg_law_pick T).mono (by decide)) C rfl (da_cons (de_var 0) (da_cons (de_var 2) da_nil)) (by decide) rfl (hal := len_cons (len_cons (fun _ _ _ _ h => len_nil h)))))
    ds_nil)))))
/-! ### _law_made -/
noncomputable def b_law_made : MS :=
  (mSeq (mIfS (mTest (mBin (dEq false) (mVar 0) (mD (.str "table"))))
  (mSeq (mRet (mIf (mTest (mVar 2)) (mXv "BadTable" "thing" (mVar 1)) (mXv "BadTable" "thing" (mVar 1))))
  mSkip)
  mSkip)
  (mSeq (mIfS (mTest (mBin (dEq false) (mVar 0) (mD (.str "other"))))
  (mSeq (mRet (mIf (mTest (mVar 2)) (mXv "OtherTable" "thing" (mVar 1)) (mXv "OtherTable" "thing" (mVar 1))))
  mSkip)
  mSkip)
  (mSeq (mIfS (mTest (mBin (dEq false) (mVar 0) (mD (.str "row"))))
  (mSeq (mRet (mIf (mTest (mVar 2)) (mXv "BadRow" "thing" (mVar 1)) (mXv "BadRow" "thing" (mVar 1))))
  mSkip)
  mSkip)
  (mSeq (mIfS (mTest (mBin (dEq false) (mVar 0) (mD (.str "number"))))
  (mSeq (mRet (mIf (mTest (mVar 2)) (mXv "BadNumber" "thing" (mVar 1)) (mXv "BadNumber" "thing" (mVar 1))))
  mSkip)
  mSkip)
  (mSeq (mIfS (mTest (mBin (dEq false) (mVar 0) (mD (.str "poly"))))
  (mSeq (mRet (mIf (mTest (mVar 2)) (mXv "BadPoly" "thing" (mVar 1)) (mXv "BadPoly" "thing" (mVar 1))))
  mSkip)
  mSkip)
  (mSeq (mIfS (mTest (mBin (dEq false) (mVar 0) (mD (.str "prime"))))
  (mSeq (mRet (mIf (mTest (mVar 2)) (mXv "BadPrime" "thing" (mVar 1)) (mXv "BadPrime" "thing" (mVar 1))))
  mSkip)
  mSkip)
  (mSeq (mIfS (mTest (mBin (dEq false) (mVar 0) (mD (.str "numbers"))))
  (mSeq (mRet (mIf (mTest (mVar 2)) (mXv "BadNumbers" "thing" (mVar 1)) (mXv "BadNumbers" "thing" (mVar 1))))
  mSkip)
  mSkip)
  (mSeq (mIfS (mTest (mBin (dEq false) (mVar 0) (mD (.str "word"))))
  (mSeq (mRet (mIf (mTest (mVar 2)) (mXv "BadWord" "thing" (mVar 1)) (mXv "BadWord" "thing" (mVar 1))))
  mSkip)
  mSkip)
  (mSeq (mIfS (mTest (mBin (dEq false) (mVar 0) (mD (.str "text"))))
  (mSeq (mRet (mIf (mTest (mVar 2)) (mXv "BadText" "at" (mVar 1)) (mXv "BadText" "at" (mVar 1))))
  mSkip)
  mSkip)
  (mSeq (mRet (mIf (mTest (mVar 2)) (mXv "Lost" "row" (mVar 1)) (mXv "Lost" "row" (mVar 1))))
  mSkip))))))))))
noncomputable def m_law_made : MF := mFun 3 b_law_made
theorem sc_law_made : FnScope ["word", "value", "is_named"] ["word", "value", "is_named"] (defScope (top 17)) := ⟨rfl, rfl, rfl, by decide +kernel, rfl, by decide +kernel, by decide +kernel⟩
theorem fg_law_made (T : Tf P w K mg base) : Fg P w K mg base 3 "_law_made" 3 [] m_law_made := by
  obtain ⟨f, fd, F, hm⟩ := T.F_law_made
  exact fg_of (k := 2) F hm sc_law_made T.sys (fun _ _ _ _ _ _ us hl => match us, hl with | [_, _, _], _ => rfl) (fun cdv A outer s H E C hp =>
    (ds_cons (ds_if (dt_cmp (op_eqB C.hu) d2_eq (de_var 0) de_str rfl)
    (ds_cons (ds_ret (de_if (dt_val (de_var 2)) (de_xvK C T.x_BadTable (by decide) rfl (de_var 1)) (de_xv C T.x_BadTable (by decide) rfl (de_var 1))))
    ds_nil)
    ds_nil)
    (ds_cons (ds_if (dt_cmp (op_eqB C.hu) d2_eq (de_var 0) de_str rfl)
    (ds_cons (ds_ret (de_if (dt_val (de_var 2)) (de_xvK C T.x_OtherTable (by decide) rfl (de_var 1)) (de_xv C T.x_OtherTable (by decide) rfl (de_var 1))))
    ds_nil)
    ds_nil)
    (ds_cons (ds_if (dt_cmp (op_eqB C.hu) d2_eq (de_var 0) de_str rfl)
    (ds_cons (ds_ret (de_if (dt_val (de_var 2)) (de_xvK C T.x_BadRow (by decide) rfl (de_var 1)) (de_xv C T.x_BadRow (by decide) rfl (de_var 1))))
    ds_nil)
    ds_nil)
    (ds_cons (ds_if (dt_cmp (op_eqB C.hu) d2_eq (de_var 0) de_str rfl)
    (ds_cons (ds_ret (de_if (dt_val (de_var 2)) (de_xvK C T.x_BadNumber (by decide) rfl (de_var 1)) (de_xv C T.x_BadNumber (by decide) rfl (de_var 1))))
    ds_nil)
    ds_nil)
    (ds_cons (ds_if (dt_cmp (op_eqB C.hu) d2_eq (de_var 0) de_str rfl)
    (ds_cons (ds_ret (de_if (dt_val (de_var 2)) (de_xvK C T.x_BadPoly (by decide) rfl (de_var 1)) (de_xv C T.x_BadPoly (by decide) rfl (de_var 1))))
    ds_nil)
    ds_nil)
    (ds_cons (ds_if (dt_cmp (op_eqB C.hu) d2_eq (de_var 0) de_str rfl)
    (ds_cons (ds_ret (de_if (dt_val (de_var 2)) (de_xvK C T.x_BadPrime (by decide) rfl (de_var 1)) (de_xv C T.x_BadPrime (by decide) rfl (de_var 1))))
    ds_nil)
    ds_nil)
    (ds_cons (ds_if (dt_cmp (op_eqB C.hu) d2_eq (de_var 0) de_str rfl)
    (ds_cons (ds_ret (de_if (dt_val (de_var 2)) (de_xvK C T.x_BadNumbers (by decide) rfl (de_var 1)) (de_xv C T.x_BadNumbers (by decide) rfl (de_var 1))))
    ds_nil)
    ds_nil)
    (ds_cons (ds_if (dt_cmp (op_eqB C.hu) d2_eq (de_var 0) de_str rfl)
    (ds_cons (ds_ret (de_if (dt_val (de_var 2)) (de_xvK C T.x_BadWord (by decide) rfl (de_var 1)) (de_xv C T.x_BadWord (by decide) rfl (de_var 1))))
    ds_nil)
    ds_nil)
    (ds_cons (ds_if (dt_cmp (op_eqB C.hu) d2_eq (de_var 0) de_str rfl)
    (ds_cons (ds_ret (de_if (dt_val (de_var 2)) (de_xvK C T.x_BadText (by decide) rfl (de_var 1)) (de_xv C T.x_BadText (by decide) rfl (de_var 1))))
    ds_nil)
    ds_nil)
    (ds_cons (ds_ret (de_if (dt_val (de_var 2)) (de_xvK C T.x_Lost (by decide) rfl (de_var 1)) (de_xv C T.x_Lost (by decide) rfl (de_var 1))))
    ds_nil)))))))))))
/-! ### _law_classes -/
noncomputable def b_law_classes : MS :=
  (mSeq (mSet 1 (mLst false (mCons (mTup (mCons (mD (.str "table")) (mCons (mIsX tb_BadTable (mVar 0)) mNil))) (mCons (mTup (mCons (mD (.str "other")) (mCons (mIsX tb_OtherTable (mVar 0)) mNil))) (mCons (mTup (mCons (mD (.str "row")) (mCons (mIsX tb_BadRow (mVar 0)) mNil))) mNil)))))
  (mSeq (mSet 1 (mBin dAdd (mVar 1) (mLst false (mCons (mTup (mCons (mD (.str "number")) (mCons (mIsX tb_BadNumber (mVar 0)) mNil))) (mCons (mTup (mCons (mD (.str "poly")) (mCons (mIsX tb_BadPoly (mVar 0)) mNil))) (mCons (mTup (mCons (mD (.str "prime")) (mCons (mIsX tb_BadPrime (mVar 0)) mNil))) mNil))))))
  (mSeq (mSet 1 (mBin dAdd (mVar 1) (mLst false (mCons (mTup (mCons (mD (.str "numbers")) (mCons (mIsX tb_BadNumbers (mVar 0)) mNil))) (mCons (mTup (mCons (mD (.str "word")) (mCons (mIsX tb_BadWord (mVar 0)) mNil))) (mCons (mTup (mCons (mD (.str "text")) (mCons (mIsX tb_BadText (mVar 0)) mNil))) mNil))))))
  (mSeq (mSet 1 (mBin dAdd (mVar 1) (mLst false (mCons (mTup (mCons (mD (.str "lost")) (mCons (mIsX tb_Lost (mVar 0)) mNil))) (mCons (mTup (mCons (mD (.str "base")) (mCons (mIsX tb_TableError (mVar 0)) mNil))) (mCons (mTup (mCons (mD (.str "error")) (mCons (mIsX tb_Exception (mVar 0)) mNil))) mNil))))))
  (mSeq (mSet 1 (mBin dAdd (mVar 1) (mLst false (mCons (mTup (mCons (mD (.str "value")) (mCons (mIsX tb_ValueError (mVar 0)) mNil))) (mCons (mTup (mCons (mD (.str "lookup")) (mCons (mIsX tb_LookupError (mVar 0)) mNil))) mNil)))))
  (mSeq (mRet (mLc false (([("word", 2), ("it", 3)] : List (Str × Nat)).map (·.2)) (mIt (mVar 1)) (gT 2 (gCons' (gN 2) (gCons' (gN 3) gNil'))) (mTest (mVar 3)) (mVar 2)))
  mSkip))))))
noncomputable def m_law_classes : MF := mFun 4 b_law_classes
theorem sc_law_classes : FnScope ["e", "found", "word", "it"] ["e"] (defScope (top 18)) := ⟨rfl, rfl, rfl, by decide +kernel, rfl, by decide +kernel, by decide +kernel⟩
theorem fg_law_classes (T : Tf P w K mg base) : Fg P w K mg base 1 "_law_classes" 1 [] m_law_classes := by
  obtain ⟨f, fd, F, hm⟩ := T.F_law_classes
  exact fg_of (k := 0) F hm sc_law_classes T.sys (fun _ _ _ _ _ _ us hl => match us, hl with | [_], _ => rfl) (fun cdv A outer s H E C hp =>
    (ds_cons (ds_set 1 C.nd (de_lst false (da_cons (de_tup (da_cons de_str (da_cons (de_isX rfl T.b_isinstance (pe_glob (v := .ref (He.ga K "BadTable")) rfl T.m_BadTable rfl) (fun _ h => h) T.i_BadTable (de_var 0)) da_nil))) (da_cons (de_tup (da_cons de_str (da_cons (de_isX rfl T.b_isinstance (pe_glob (v := .ref (He.ga K "OtherTable")) rfl T.m_OtherTable rfl) (fun _ h => h) T.i_OtherTable (de_var 0)) da_nil))) (da_cons (de_tup (da_cons de_str (da_cons (de_isX rfl T.b_isinstance (pe_glob (v := .ref (He.ga K "BadRow")) rfl T.m_BadRow rfl) (fun _ h => h) T.i_BadRow (de_var 0)) da_nil))) da_nil)))))
    (ds_cons (ds_set 1 C.nd (de_add (de_var 1) (de_lst false (da_cons (de_tup (da_cons de_str (da_cons (de_isX rfl T.b_isinstance (pe_glob (v := .ref (He.ga K "BadNumber")) rfl T.m_BadNumber rfl) (fun _ h => h) T.i_BadNumber (de_var 0)) da_nil))) (da_cons (de_tup (da_cons de_str (da_cons (de_isX rfl T.b_isinstance (pe_glob (v := .ref (He.ga K "BadPoly")) rfl T.m_BadPoly rfl) (fun _ h => h) T.i_BadPoly (de_var 0)) da_nil))) (da_cons (de_tup (da_cons de_str (da_cons (de_isX rfl T.b_isinstance (pe_glob (v := .ref (He.ga K "BadPrime")) rfl T.m_BadPrime rfl) (fun _ h => h) T.i_BadPrime (de_var 0)) da_nil))) da_nil))))))
    (ds_cons (ds_set 1 C.nd (de_add (de_var 1) (de_lst false (da_cons (de_tup (da_cons de_str (da_cons (de_isX rfl T.b_isinstance (pe_glob (v := .ref (He.ga K "BadNumbers")) rfl T.m_BadNumbers rfl) (fun _ h => h) T.i_BadNumbers (de_var 0)) da_nil))) (da_cons (de_tup (da_cons de_str (da_cons (de_isX rfl T.b_isinstance (pe_glob (v := .ref (He.ga K "BadWord")) rfl T.m_BadWord rfl) (fun _ h => h) T.i_BadWord (de_var 0)) da_nil))) (da_cons (de_tup (da_cons de_str (da_cons (de_isX rfl T.b_isinstance (pe_glob (v := .ref (He.ga K "BadText")) rfl T.m_BadText rfl) (fun _ h => h) T.i_BadText (de_var 0)) da_nil))) da_nil))))))
    (ds_cons (ds_set 1 C.nd (de_add (de_var 1) (de_lst false (da_cons (de_tup (da_cons de_str (da_cons (de_isX rfl T.b_isinstance (pe_glob (v := .ref (He.ga K "Lost")) rfl T.m_Lost rfl) (fun _ h => h) T.i_Lost (de_var 0)) da_nil))) (da_cons (de_tup (da_cons de_str (da_cons (de_isX rfl T.b_isinstance (pe_glob (v := .ref (He.ga K "TableError")) rfl T.m_TableError rfl) (fun _ h => h) T.i_TableError (de_var 0)) da_nil))) (da_cons (de_tup (da_cons de_str (da_cons (de_isX rfl T.b_isinstance (pe_bltn rfl T.b_Exception (by decide +kernel) (v := .ty "Exception") rfl) (fun _ h => h) T.i_Exception (de_var 0)) da_nil))) da_nil))))))
    (ds_cons (ds_set 1 C.nd (de_add (de_var 1) (de_lst false (da_cons (de_tup (da_cons de_str (da_cons (de_isX rfl T.b_isinstance (pe_bltn rfl T.b_ValueError (by decide +kernel) (v := .ty "ValueError") rfl) (fun _ h => h) T.i_ValueError (de_var 0)) da_nil))) (da_cons (de_tup (da_cons de_str (da_cons (de_isX rfl T.b_isinstance (pe_bltn rfl T.b_LookupError (by decide +kernel) (v := .ty "LookupError") rfl) (fun _ h => h) T.i_LookupError (de_var 0)) da_nil))) da_nil)))))
    (ds_cons (ds_ret (de_lc false C.calm C.nd (di_seq (de_var 1)) (blkOk_by (own := [("word", 2), ("it", 3)]) (by kernel_rfl)) (vs' := [2, 3]) (by decide) (fun _ _ _ _ _ => (dg_tup C.calm (dgs_cons (dg_name (vs := [2, 3]) 2 C.nd) (dgs_cons (dg_name (vs := [2, 3]) 3 C.nd) dgs_nil)))) (fun _ _ _ _ _ => (dts_one (dt_val (de_var 3)))) (fun _ _ _ _ _ => (de_var 2))))
    ds_nil)))))))
noncomputable def bH_law_classes (a : Addr) : MS :=
  (mSeq (mSet 1 (mLst false (mCons (mTup (mCons (mD (.str "table")) (mCons (mIsX tb_BadTable (mVar 0)) mNil))) (mCons (mTup (mCons (mD (.str "other")) (mCons (mIsX tb_OtherTable (mVar 0)) mNil))) (mCons (mTup (mCons (mD (.str "row")) (mCons (mIsX tb_BadRow (mVar 0)) mNil))) mNil)))))
  (mSeq (mSet 1 (mBin dAdd (mVar 1) (mLst false (mCons (mTup (mCons (mD (.str "number")) (mCons (mIsX tb_BadNumber (mVar 0)) mNil))) (mCons (mTup (mCons (mD (.str "poly")) (mCons (mIsX tb_BadPoly (mVar 0)) mNil))) (mCons (mTup (mCons (mD (.str "prime")) (mCons (mIsX tb_BadPrime (mVar 0)) mNil))) mNil))))))
  (mSeq (mSet 1 (mBin dAdd (mVar 1) (mLst false (mCons (mTup (mCons (mD (.str "numbers")) (mCons (mIsX tb_BadNumbers (mVar 0)) mNil))) (mCons (mTup (mCons (mD (.str "word")) (mCons (mIsX tb_BadWord (mVar 0)) mNil))) (mCons (mTup (mCons (mD (.str "text")) (mCons (mIsX tb_BadText (mVar 0)) mNil))) mNil))))))
  (mSeq (mSet 1 (mBin dAdd (mVar 1) (mLst false (mCons (mTup (mCons (mD (.str "lost")) (mCons (mIsX tb_Lost (mVar 0)) mNil))) (mCons (mTup (mCons (mD (.str "base")) (mCons (mIsX tb_TableError (mVar 0)) mNil))) (mCons (mTup (mCons (mD (.str "error")) (mCons (mIsX tb_Exception (mVar 0)) mNil))) mNil))))))
  (mSeq (mSet 1 (mBin dAdd (mVar 1) (mLst false (mCons (mTup (mCons (mD (.str "value")) (mCons (mIsX tb_ValueError (mVar 0)) mNil))) (mCons (mTup (mCons (mD (.str "lookup")) (mCons (mIsX tb_LookupError (mVar 0)) mNil))) mNil)))))
  (mSeq (mRet (mLcH a 0 false (([("word", 2), ("it", 3)] : List (Str × Nat)).map (·.2)) (mVar 1) (gTH a 0 2 (gCons' (gN 2) (gCons' (gN 3) gNil'))) (mTest (mVar 3)) (mVar 2)))
  mSkip))))))
noncomputable def mH_law_classes (a : Addr) : MF := mFun 4 (bH_law_classes a)
theorem fh_law_classes (T : Tf P w K mg base) : FgH P w K mg base 1 "_law_classes" 1 mH_law_classes := by
  obtain ⟨f, fd, F, hm⟩ := T.F_law_classes
  exact fgH_of (k := 0) F hm sc_law_classes T.sys (fun _ _ _ _ _ _ us hl => match us, hl with | [_], _ => rfl) (fun cdv A outer s H E a C =>
    (ds_cons (ds_set 1 C.nd (de_lst false (da_cons (de_tup (da_cons de_str (da_cons (de_isX rfl T.b_isinstance (pe_glob (v := .ref (He.ga K "BadTable")) rfl T.m_BadTable rfl) (fun _ h => h) T.i_BadTable (de_var 0)) da_nil))) (da_cons (de_tup (da_cons de_str (da_cons (de_isX rfl T.b_isinstance (pe_glob (v := .ref (He.ga K "OtherTable")) rfl T.m_OtherTable rfl) (fun _ h => h) T.i_OtherTable (de_var 0)) da_nil))) (da_cons (de_tup (da_cons de_str (da_cons (de_isX rfl T.b_isinstance (pe_glob (v := .ref (He.ga K "BadRow")) rfl T.m_BadRow rfl) (fun _ h => h) T.i_BadRow (de_var 0)) da_nil))) da_nil)))))
    (ds_cons (ds_set 1 C.nd (de_add (de_var 1) (de_lst false (da_cons (de_tup (da_cons de_str (da_cons (de_isX rfl T.b_isinstance (pe_glob (v := .ref (He.ga K "BadNumber")) rfl T.m_BadNumber rfl) (fun _ h => h) T.i_BadNumber (de_var 0)) da_nil))) (da_cons (de_tup (da_cons de_str (da_cons (de_isX rfl T.b_isinstance (pe_glob (v := .ref (He.ga K "BadPoly")) rfl T.m_BadPoly rfl) (fun _ h => h) T.i_BadPoly (de_var 0)) da_nil))) (da_cons (de_tup (da_cons de_str (da_cons (de_isX rfl T.b_isinstance (pe_glob (v := .ref (He.ga K "BadPrime")) rfl T.m_BadPrime rfl) (fun _ h => h) T.i_BadPrime (de_var 0)) da_nil))) da_nil))))))
    (ds_cons (ds_set 1 C.nd (de_add (de_var 1) (de_lst false (da_cons (de_tup (da_cons de_str (da_cons (de_isX rfl T.b_isinstance (pe_glob (v := .ref (He.ga K "BadNumbers")) rfl T.m_BadNumbers rfl) (fun _ h => h) T.i_BadNumbers (de_var 0)) da_nil))) (da_cons (de_tup (da_cons de_str (da_cons (de_isX rfl T.b_isinstance (pe_glob (v := .ref (He.ga K "BadWord")) rfl T.m_BadWord rfl) (fun _ h => h) T.i_BadWord (de_var 0)) da_nil))) (da_cons (de_tup (da_cons de_str (da_cons (de_isX rfl T.b_isinstance (pe_glob (v := .ref (He.ga K "BadText")) rfl T.m_BadText rfl) (fun _ h => h) T.i_BadText (de_var 0)) da_nil))) da_nil))))))
    (ds_cons (ds_set 1 C.nd (de_add (de_var 1) (de_lst false (da_cons (de_tup (da_cons de_str (da_cons (de_isX rfl T.b_isinstance (pe_glob (v := .ref (He.ga K "Lost")) rfl T.m_Lost rfl) (fun _ h => h) T.i_Lost (de_var 0)) da_nil))) (da_cons (de_tup (da_cons de_str (da_cons (de_isX rfl T.b_isinstance (pe_glob (v := .ref (He.ga K "TableError")) rfl T.m_TableError rfl) (fun _ h => h) T.i_TableError (de_var 0)) da_nil))) (da_cons (de_tup (da_cons de_str (da_cons (de_isX rfl T.b_isinstance (pe_bltn rfl T.b_Exception (by decide +kernel) (v := .ty "Exception") rfl) (fun _ h => h) T.i_Exception (de_var 0)) da_nil))) da_nil))))))
    (ds_cons (ds_set 1 C.nd (de_add (de_var 1) (de_lst false (da_cons (de_tup (da_cons de_str (da_cons (de_isX rfl T.b_isinstance (pe_bltn rfl T.b_ValueError (by decide +kernel) (v := .ty "ValueError") rfl) (fun _ h => h) T.i_ValueError (de_var 0)) da_nil))) (da_cons (de_tup (da_cons de_str (da_cons (de_isX rfl T.b_isinstance (pe_bltn rfl T.b_LookupError (by decide +kernel) (v := .ty "LookupError") rfl) (fun _ h => h) T.i_LookupError (de_var 0)) da_nil))) da_nil)))))
    (ds_cons (ds_ret (de_lcH 0 false C (de_var 1) (blkOk_by (own := [("word", 2), ("it", 3)]) (by kernel_rfl)) (vs' := [2, 3]) (by decide) (fun _ _ _ _ _ => (dg_tupH 0 C.ha (dgs_cons (dg_name (vs := [2, 3]) 2 C.nd) (dgs_cons (dg_name (vs := [2, 3]) 3 C.nd) dgs_nil)))) (fun _ _ _ _ _ => (dts_one (dt_val (de_var 3)))) (fun _ _ _ _ _ => (de_var 2))))
    ds_nil)))))))
/-! ### _law_caught -/
noncomputable def b_law_caught : MS :=
  (mSeq (mSet 2 (mLst true mNil))
  (mSeq (mTry (mSeq (mIfS (mTest (mBin (dEq false) (mVar 0) (mD (.str "table"))))
  (mSeq (mRaise "BadTable" "thing" (mVar 1))
  mSkip)
  mSkip)
  (mSeq (mIfS (mTest (mBin (dEq false) (mVar 0) (mD (.str "text"))))
  (mSeq (mRaise "BadText" "at" (mVar 1))
  mSkip)
  mSkip)
  (mSeq (mRaise "Lost" "row" (mVar 1))
  mSkip)))
  [⟨[("BadNumber", false), ("BadNumbers", false), ("BadPoly", false), ("BadPrime", false), ("BadRow", false), ("BadTable", true), ("BadText", false), ("BadWord", false), ("Lost", false), ("OtherTable", false)], (some 3), fun a => (mSeq (mExpr (mMethL fAppend (mVar 2) (mCons (mTup (mCons (mD (.str "table")) (mCons (mXat xtab "thing" (mVar 3)) mNil))) mNil)))
  mSkip)⟩, ⟨[("BadNumber", false), ("BadNumbers", false), ("BadPoly", false), ("BadPrime", false), ("BadRow", false), ("BadTable", false), ("BadText", true), ("BadWord", false), ("Lost", false), ("OtherTable", false)], (some 3), fun a => (mSeq (mExpr (mMethL fAppend (mVar 2) (mCons (mTup (mCons (mD (.str "text")) (mCons (mXat xtab "at" (mVar 3)) mNil))) mNil)))
  mSkip)⟩, ⟨[("BadNumber", false), ("BadNumbers", false), ("BadPoly", false), ("BadPrime", false), ("BadRow", false), ("BadTable", false), ("BadText", false), ("BadWord", false), ("Lost", true), ("OtherTable", false)], (some 3), fun a => (mSeq (mExpr (mMethL fAppend (mVar 2) (mCons (mTup (mCons (mD (.str "lost")) (mCons (mXat xtab "row" (mVar 3)) mNil))) mNil)))
  mSkip)⟩])
  (mSeq (mTry (mSeq (mIfS (mTest (mBin (dEq false) (mVar 0) (mD (.str "table"))))
  (mSeq (mRaise "BadTable" "thing" (mVar 1))
  mSkip)
  mSkip)
  (mSeq (mIfS (mTest (mBin (dEq false) (mVar 0) (mD (.str "text"))))
  (mSeq (mRaise "BadText" "at" (mVar 1))
  mSkip)
  mSkip)
  (mSeq (mRaise "Lost" "row" (mVar 1))
  mSkip)))
  [⟨[("BadNumber", true), ("BadNumbers", true), ("BadPoly", true), ("BadPrime", true), ("BadRow", true), ("BadTable", true), ("BadText", true), ("BadWord", true), ("Lost", true), ("OtherTable", true)], (some 3), fun a => (mSeq (mExpr (mMethL fAppend (mVar 2) (mCons (mC fTuple (mCons (mCallP (mH_law_classes a) [] (mCons (mVar 3) mNil)) mNil)) mNil)))
  mSkip)⟩])
  (mSeq (mRet (mFrz (mVar 2)))
  mSkip))))
noncomputable def m_law_caught : MF := mFun 4 b_law_caught
theorem sc_law_caught : FnScope ["word", "value", "found", "e"] ["word", "value"] (defScope (top 19)) := ⟨rfl, rfl, rfl, by decide +kernel, rfl, by decide +kernel, by decide +kernel⟩
theorem fg_law_caught (T : Tf P w K mg base) : Fg P w K mg base 3 "_law_caught" 2 [] m_law_caught := by
  obtain ⟨f, fd, F, hm⟩ := T.F_law_caught
  exact fg_of (k := 2) F hm sc_law_caught T.sys (fun _ _ _ _ _ _ us hl => match us, hl with | [_, _], _ => rfl) (fun cdv A outer s H E C hp =>
    (ds_cons (ds_set 2 C.nd (de_lst true da_nil))
    (ds_cons (ds_try C (hb := fun W1 pn xe C1 hp => (ds_cons (ds_if (dt_cmp (op_eqB C1.hu) d2_eq (de_var 0) de_str rfl)
    (ds_cons (ds_raise C1 T.x_BadTable (by decide) rfl (de_var 1))
    ds_nil)
    ds_nil)
    (ds_cons (ds_if (dt_cmp (op_eqB C1.hu) d2_eq (de_var 0) de_str rfl)
    (ds_cons (ds_raise C1 T.x_BadText (by decide) rfl (de_var 1))
    ds_nil)
    ds_nil)
    (ds_cons (ds_raise C1 T.x_Lost (by decide) rfl (de_var 1))
    ds_nil)))) (hh := (DCls.consN (i := 3) ⟨rfl, by decide, Or.inl T.m_BadTable⟩ T.e_BadTable rfl rfl (fun a pn => have C2 := C.suite a pn; (ds_cons (ds_expr (de_append (de_var 2) (de_tup (da_cons de_str (da_cons (de_xat T.xall (de_var 3)) da_nil)))))
    ds_nil)) (DCls.consN (i := 3) ⟨rfl, by decide, Or.inl T.m_BadText⟩ T.e_BadText rfl rfl (fun a pn => have C2 := C.suite a pn; (ds_cons (ds_expr (de_append (de_var 2) (de_tup (da_cons de_str (da_cons (de_xat T.xall (de_var 3)) da_nil)))))
    ds_nil)) (DCls.consN (i := 3) ⟨rfl, by decide, Or.inl T.m_Lost⟩ T.e_Lost rfl rfl (fun a pn => have C2 := C.suite a pn; (ds_cons (ds_expr (de_append (de_var 2) (de_tup (da_cons de_str (da_cons (de_xat T.xall (de_var 3)) da_nil)))))
    ds_nil)) DCls.nil)))))
    (ds_cons (ds_try C (hb := fun W1 pn xe C1 hp => (ds_cons (ds_if (dt_cmp (op_eqB C1.hu) d2_eq (de_var 0) de_str rfl)
    (ds_cons (ds_raiseK C1 T.x_BadTable (by decide) rfl (de_var 1))
    ds_nil)
    ds_nil)
    (ds_cons (ds_if (dt_cmp (op_eqB C1.hu) d2_eq (de_var 0) de_str rfl)
    (ds_cons (ds_raiseK C1 T.x_BadText (by decide) rfl (de_var 1))
    ds_nil)
    ds_nil)
    (ds_cons (ds_raiseK C1 T.x_Lost (by decide) rfl (de_var 1))
    ds_nil)))) (hh := (DCls.consN (i := 3) ⟨rfl, by decide, Or.inl T.m_TableError⟩ T.e_TableError rfl rfl (fun a pn => have C2 := C.suite a pn; (ds_cons (ds_expr (de_append (de_var 2) (de_callTy call_tuple_of dc_tuple rfl T.b_tuple (by decide +kernel) (da_cons (de_callH ((fh_law_classes T).mono (by decide)) C2 rfl (da_cons (de_var 3) da_nil) rfl (hal := len_cons (fun _ _ _ _ h => len_nil h))) da_nil))))
    ds_nil)) DCls.nil)))
    (ds_cons (ds_ret (de_frz (de_var 2)))
    ds_nil)))))
/-! ### law -/
noncomputable def b_law : MS :=
  (mSeq (mSet 1 (mCallS m_law_deck [] (mCons (mVar 0) mNil)))
  (mSeq (mFor (mRg1 (mCons (mD (.int 4)) mNil)) (gN 2)
  (mSeq (mSet 3 (mCallS m_law_odd [] (mCons (mVar 1) (mCons (mCallS m_law_pick [] (mCons (mVar 1) (mCons (mLst false (mCons (mTup (mCons (mD (.int 2)) (mCons (mTup (mCons (mTup (mCons (mD (.int 1)) (mCons (mD (.int 0)) mNil))) (mCons (mTup (mCons (mD (.int 0)) (mCons (mD (.int 1)) mNil))) mNil))) mNil))) (mCons (mD (.int 3)) (mCons (mD (.str "table 2 1")) (mCons (mD .none) mNil))))) mNil))) mNil))))
  (mSeq (mSet 3 (mIf (mTest (mBin (dEq false) (mCallS m_law_draw [] (mCons (mVar 1) (mCons (mD (.int 4)) mNil))) (mD (.int 0)))) (mTup (mCons (mVar 3) (mCons (mLst false (mCons (mVar 3) mNil)) mNil))) (mVar 3)))
  (mSeq (mSet 4 (mC fRepr (mCons (mVar 3) mNil)))
  (mSeq (mFor (mIt (mTup (mCons (mD (.str "table")) (mCons (mD (.str "other")) (mCons (mD (.str "row")) (mCons (mD (.str "number")) (mCons (mD (.str "poly")) (mCons (mD (.str "prime")) (mCons (mD (.str "numbers")) (mCons (mD (.str "word")) (mCons (mD (.str "text")) (mCons (mD (.str "lost")) mNil)))))))))))) (gN 5)
  (mSeq (mFor (mIt (mTup (mCons (mD (.bool false)) (mCons (mD (.bool true)) mNil)))) (gN 6)
  (mSeq (mSet 7 (mCallP m_law_made [] (mCons (mVar 5) (mCons (mVar 3) (mCons (mVar 6) mNil)))))
  (mSeq (mSet 8 (mIf (mTest (mBin (dEq false) (mVar 5) (mD (.str "text")))) (mXat xtab "at" (mVar 7)) (mIf (mTest (mBin (dEq false) (mVar 5) (mD (.str "lost")))) (mXat xtab "row" (mVar 7)) (mXat xtab "thing" (mVar 7)))))
  (mSeq (mIfS (mOr (mTest (mBin (dEq true) (mC fRepr (mCons (mVar 8) mNil)) (mVar 4))) (mTest (mBin (dEq true) (mCallP m_law_classes [] (mCons (mVar 7) mNil)) (mLst false (mCons (mVar 5) (mCons (mD (.str "base")) (mCons (mD (.str "error")) mNil)))))))
  (mSeq (mRet (mD (.bool false)))
  mSkip)
  mSkip)
  mSkip))))
  mSkip))
  (mSeq (mFor (mIt (mTup (mCons (mD (.str "table")) (mCons (mD (.str "text")) (mCons (mD (.str "lost")) mNil))))) (gN 5)
  (mSeq (mIfS (mTest (mBin (dEq true) (mC fRepr (mCons (mCallP m_law_caught [] (mCons (mVar 5) (mCons (mVar 3) mNil))) mNil)) (mC fRepr (mCons (mLst false (mCons (mTup (mCons (mVar 5) (mCons (mVar 3) mNil))) (mCons (mTup (mCons (mVar 5) (mCons (mD (.str "base")) (mCons (mD (.str "error")) mNil)))) mNil))) mNil))))
  (mSeq (mRet (mD (.bool false)))
  mSkip)
  mSkip)
  mSkip))
  mSkip))))))
  (mSeq (mRet (mD (.bool true)))
  mSkip)))
noncomputable def m_law : MF := mFun 9 b_law
theorem sc_law : FnScope ["script", "deck", "turn", "value", "text", "word", "is_named", "e", "told"] ["script"] (defScope (top 20)) := ⟨rfl, rfl, rfl, by decide +kernel, rfl, by decide +kernel, by decide +kernel⟩
theorem fg_law (T : Tf P w K mg base) : Fg P w K mg base 4 "law" 1 [] m_law := by
  obtain ⟨f, fd, F, hm⟩ := T.F_law
  exact fg_of (k := 3) F hm sc_law T.sys (fun _ _ _ _ _ _ us hl => match us, hl with | [_], _ => rfl) (fun cdv A outer s H E C hp =>
    (ds_cons (ds_set 1 C.nd (de_callS 0 ((fg_law_deck T).mono (by decide)) C rfl (da_cons (de_var 0) da_nil) (by decide) rfl (hal := len_cons (fun _ _ _ _ h => len_nil h))))
    (ds_cons (ds_for hp C.calm (di_range1 rfl T.b_range (da_cons de_int da_nil)) (dg_name (vs := [2]) 2 C.nd)
    (ds_cons (ds_set 3 C.nd (de_callS 0 ((fg_law_odd T).mono (by decide)) C rfl (da_cons (de_var 1) (da_cons (de_callS 0 ((fg_law_pick T).mono (by decide)) C rfl (da_cons (de_var 1) (da_cons (de_lst false (da_cons (de_tup (da_cons de_int (da_cons (de_tup (da_cons (de_tup (da_cons de_int (da_cons de_int da_nil))) (da_cons (de_tup (da_cons de_int (da_cons de_int da_nil))) da_nil))) da_nil))) (da_cons de_int (da_cons de_str (da_cons de_non da_nil))))) da_nil)) (by decide) rfl (hal := len_cons (len_cons (fun _ _ _ _ h => len_nil h)))) da_nil)) (by decide) rfl (hal := len_cons (len_cons (fun _ _ _ _ h => len_nil h)))))
    (ds_cons (ds_set 3 C.nd (de_if (dt_cmp (op_eqB C.hu) d2_eq (de_callS 0 ((fg_law_draw T).mono (by decide)) C rfl (da_cons (de_var 1) (da_cons de_int da_nil)) (by decide) rfl (hal := len_cons (len_cons (fun _ _ _ _ h => len_nil h)))) de_int rfl) (de_tup (da_cons (de_var 3) (da_cons (de_lst false (da_cons (de_var 3) da_nil)) da_nil))) (de_var 3)))
    (ds_cons (ds_set 4 C.nd (de_callB (call_repr_data C) dc_repr rfl T.b_repr (by decide +kernel) (da_cons (de_var 3) da_nil)))
    (ds_cons (ds_for hp C.calm (di_seq (de_tup (da_cons de_str (da_cons de_str (da_cons de_str (da_cons de_str (da_cons de_str (da_cons de_str (da_cons de_str (da_cons de_str (da_cons de_str (da_cons de_str da_nil)))))))))))) (dg_name (vs := [5]) 5 C.nd)
    (ds_cons (ds_for hp C.calm (di_seq (de_tup (da_cons de_bl (da_cons de_bl da_nil)))) (dg_name (vs := [6]) 6 C.nd)
    (ds_cons (ds_set 7 C.nd (de_call 0 ((fg_law_made T).mono (by decide)) C rfl (da_cons (de_var 5) (da_cons (de_var 3) (da_cons (de_var 6) da_nil))) (by decide) rfl (hal := len_cons (len_cons (len_cons (fun _ _ _ _ h => len_nil h))))))
    (ds_cons (ds_set 8 C.nd (de_if (dt_cmp (op_eqB C.hu) d2_eq (de_var 5) de_str rfl) (de_xat T.xall (de_var 7)) (de_if (dt_cmp (op_eqB C.hu) d2_eq (de_var 5) de_str rfl) (de_xat T.xall (de_var 7)) (de_xat T.xall (de_var 7)))))
    (ds_cons (ds_if (dt_w (dw_or (dt_cmp (op_neB C.hu) d2_eq (de_callB (call_repr_data C) dc_repr rfl T.b_repr (by decide +kernel) (da_cons (de_var 8) da_nil)) (de_var 4) rfl) (dw_or1 (dt_cmp (op_neB C.hu) d2_eq (de_call 0 ((fg_law_classes T).mono (by decide)) C rfl (da_cons (de_var 7) da_nil) (by decide) rfl (hal := len_cons (fun _ _ _ _ h => len_nil h))) (de_lst false (da_cons (de_var 5) (da_cons de_str (da_cons de_str da_nil)))) rfl))))
    (ds_cons (ds_ret de_bl)
    ds_nil)
    ds_nil)
    ds_nil))))
    ds_nil))
    (ds_cons (ds_for hp C.calm (di_seq (de_tup (da_cons de_str (da_cons de_str (da_cons de_str da_nil))))) (dg_name (vs := [5]) 5 C.nd)
    (ds_cons (ds_if (dt_cmp (op_neB C.hu) d2_eq (de_callB (call_repr_data C) dc_repr rfl T.b_repr (by decide +kernel) (da_cons (de_call 0 ((fg_law_caught T).mono (by decide)) C rfl (da_cons (de_var 5) (da_cons (de_var 3) da_nil)) (by decide) rfl (hal := len_cons (len_cons (fun _ _ _ _ h => len_nil h)))) da_nil)) (de_callB (call_repr_data C) dc_repr rfl T.b_repr (by decide +kernel) (da_cons (de_lst false (da_cons (de_tup (da_cons (de_var 5) (da_cons (de_var 3) da_nil))) (da_cons (de_tup (da_cons (de_var 5) (da_cons de_str (da_cons de_str da_nil)))) da_nil))) da_nil)) rfl)
    (ds_cons (ds_ret de_bl)
    ds_nil)
    ds_nil)
    ds_nil))
    ds_nil))))))
    (ds_cons (ds_ret de_bl)
    ds_nil))))
end
end G

set_option Elab.async false
set_option linter.all false
set_option maxRecDepth 100000
set_option maxHeartbeats 1000000
namespace G
open PySem PySem.Spec Dd
def dk (c : Nat) (m k : Int) : Ob := .dK [(.inr "cells", .r c), (.inr "mixed", .d (.int m)), (.inr "draws", .d (.int k))]
structure DeckAt (st : Sto) (b : Int) : Prop where
  ex : ∃ (c : Nat) (m k : Int) (cs : List Int), st[0]? = some (dk c m k) ∧ c ≠ 0 ∧ st[c]? = some (.lst (cs.map fun i => .d (.int i))) ∧ 0 ≤ m ∧ m < 2147483648 ∧ 0 ≤ k ∧ k ≤ b ∧ cs.length ≤ 100
theorem get_cells {st : Sto} {c : Nat} {m k : Int} (h : st[0]? = some (dk c m k)) : dKey (.r 0) (.d (.str "cells")) st = .ok (.r c) st := by
  have e : dGet (.r 0) (.d (.str "cells")) st = some (some (.r c)) := by
    show (match st[0]? with | some (.dK kus) => (keyOf (.d (.str "cells"))).map (lookU kus) | some (.dT kus) => (tkeyOf (.d (.str "cells"))).map (lookU kus) | _ => none) = _
    rw [h]; rfl
  unfold dKey; rw [e]
theorem get_mixed {st : Sto} {c : Nat} {m k : Int} (h : st[0]? = some (dk c m k)) : dKey (.r 0) (.d (.str "mixed")) st = .ok (.d (.int m)) st := by
  have e : dGet (.r 0) (.d (.str "mixed")) st = some (some (.d (.int m))) := by
    show (match st[0]? with | some (.dK kus) => (keyOf (.d (.str "mixed"))).map (lookU kus) | some (.dT kus) => (tkeyOf (.d (.str "mixed"))).map (lookU kus) | _ => none) = _
    rw [h]; rfl
  unfold dKey; rw [e]
theorem get_draws {st : Sto} {c : Nat} {m k : Int} (h : st[0]? = some (dk c m k)) : dKey (.r 0) (.d (.str "draws")) st = .ok (.d (.int k)) st := by
  have e : dGet (.r 0) (.d (.str "draws")) st = some (some (.d (.int k))) := by
    show (match st[0]? with | some (.dK kus) => (keyOf (.d (.str "draws"))).map (lookU kus) | some (.dT kus) => (tkeyOf (.d (.str "draws"))).map (lookU kus) | _ => none) = _
    rw [h]; rfl
  unfold dKey; rw [e]
theorem put_draws {st : Sto} {env : En} {c : Nat} {m k k' : Int} (h : st[0]? = some (dk c m k)) : dPut (.r 0) (.d (.str "draws")) (.d (.int k')) env st = .nx env (st.set 0 (dk c m k')) := by
  show (match st[0]? with
    | some (.dK kus) => match keyOf (.d (.str "draws")) with
      | some kk => if kus.length < 10000000 then SO.nx env (st.set 0 (.dK (putU kus kk (.d (.int k'))))) else .bad
      | none => .bad
    | some (.dT kus) => match tkeyOf (.d (.str "draws")) with
      | some kk => if kus.length < 10000000 then SO.nx env (st.set 0 (.dT (putU kus kk (.d (.int k'))))) else .bad
      | none => .bad
    | _ => .bad) = _
  rw [h]; rfl
theorem lg {i : Int} (h0 : 0 ≤ i) (h : i < 2 ^ 100) : i.natAbs.log2 < 400000 := by
  by_cases z : i.natAbs = 0
  · rw [z]; decide
  · have : i.natAbs.log2 < 100 := (Nat.log2_lt z).mpr (by omega)
    omega

theorem eqv_nil (cs : List Int) : PyData.eqv (.list (cs.map PyData.int)) (.list []) = cs.isEmpty := by
  cases cs <;> simp [PyData.eqv, PyData.eqvAll]
theorem datas_ints (cs : List Int) : datas (cs.map fun i => U.d (.int i)) = some (cs.map PyData.int) := by
  have e : (cs.map fun i => U.d (.int i)) = (cs.map PyData.int).map U.d := by simp
  rw [e, datas_map]
theorem canLay_ints : ∀ cs : List Int, PyData.canLayAll0 (cs.map PyData.int) = true
  | [] => by simp [PyData.canLayAll0]
  | c :: r => by simp [PyData.canLayAll0, PyData.canLay0, canLay_ints r]
theorem depth_ints : ∀ cs : List Int, PyData.depthAll (cs.map PyData.int) ≤ 1
  | [] => by simp [PyData.depthAll]
  | c :: r => by
    have := depth_ints r
    simp only [List.map_cons, PyData.depthAll, PyData.depth]
    omega
theorem shaped_ints (cs : List Int) : SeqAt.shaped (.list (cs.map PyData.int)) = true := by
  have h1 := canLay_ints cs
  have h2 := depth_ints cs
  refine Bool.and_eq_true_iff.mpr ⟨by simpa [PyData.canLay0] using h1, decide_eq_true ?_⟩
  simp only [PyData.depth]; omega
end G

set_option Elab.async false
set_option linter.all false
set_option maxRecDepth 100000
set_option maxHeartbeats 4000000
namespace G
open PySem PySem.Spec Dd
theorem mV {i : Nat} {env : En} {st : Sto} {u : U} (h : env[i]? = some (some u)) : mVar i env st = .ok u st := mVar_eq h
theorem bok {α β : Type} (a : α) (st : Sto) (f : α → Sto → EO β) : (EO.ok a st).bind f = f a st := rfl
theorem tok {α : Type} (a : α) (st : Sto) (env : En) (f : α → Sto → SO) : (EO.ok a st).thenS env f = f a st := rfl
theorem ads (i j : Int) (st : Sto) : dAdd (.d (.int i)) (.d (.int j)) st = .ok (.d (.int (i + j))) st := rfl
theorem mls {s : Bool} (i j : Int) (st : Sto) (h : i.natAbs.log2 < 400000) (h2 : j.natAbs.log2 < 400000) : dMul s (.d (.int i)) (.d (.int j)) st = .ok (.d (.int (i * j))) st := by
  show (if i.natAbs.log2 + j.natAbs.log2 < 1000000 then EO.ok (U.d (.int (i * j))) st else .bad) = _
  rw [if_pos (by omega)]
theorem mds (i j : Int) (st : Sto) (h : 0 < j) : dMod (.d (.int i)) (.d (.int j)) st = .ok (.d (.int (i % j))) st := by
  show (if decide (0 < j) = true then EO.ok (U.d (.int (i % j))) st else .bad) = _
  rw [if_pos (decide_eq_true h)]
theorem fds (i j : Int) (st : Sto) (h : 0 < j) (h2 : j.natAbs.log2 < 9000) : dFdiv (.d (.int i)) (.d (.int j)) st = .ok (.d (.int (i / j))) st := by
  show (if decide (0 < j ∧ j.natAbs.log2 < 9000) = true then EO.ok (U.d (.int (i / j))) st else .bad) = _
  rw [if_pos (decide_eq_true ⟨h, h2⟩)]
theorem fint (i : Int) (st : Sto) : fInt [.d (.int i)] st = .ok (.d (.int i)) st := rfl
/-- the tail of a draw: three steps, the result -/
theorem draw_tail {st : Sto} {c : Nat} {m k n many : Int} {z : Option U} (h : st[0]? = some (dk c m k)) (hk : 0 ≤ k) (hk2 : k < 2 ^ 40) (hn : 0 ≤ n) (hn2 : n < 2 ^ 60) (hm : 0 < many) :
    ∃ r, 0 ≤ r ∧ r < many ∧ (mSeq (mSet 2 (mBin dMod (mC fInt (mCons (mBin dAdd (mBin (dMul false) (mVar 2) (mD (.int 39373))) (mD (.int 83))) mNil)) (mD (.int 2147483647))))
  (mSeq (mSet 2 (mBin dMod (mC fInt (mCons (mBin dAdd (mBin dAdd (mBin (dMul false) (mVar 2) (mVar 2)) (mBin (dMul false) (mD (.int 52713)) (mBin dKey (mVar 0) (mD (.str "draws"))))) (mD (.int 29))) mNil)) (mD (.int 2147483587))))
  (mSeq (mSet 2 (mBin dMod (mC fInt (mCons (mBin (dMul false) (mVar 2) (mD (.int 40692))) mNil)) (mD (.int 2147483563))))
  (mSeq (mRet (mBin dMod (mC fInt (mCons (mBin dFdiv (mVar 2) (mD (.int 64))) mNil)) (mVar 1)))
  mSkip)))) [some (.r 0), some (.d (.int many)), some (.d (.int n)), z] st = .rt (.d (.int r)) st := by
  have e1 : ∀ (i : Int), 0 ≤ (i % 2147483647) ∧ i % 2147483647 < 2147483647 := fun i => ⟨Int.emod_nonneg _ (by decide), Int.emod_lt_of_pos _ (by decide)⟩
  have e2 : ∀ (i : Int), 0 ≤ (i % 2147483587) ∧ i % 2147483587 < 2147483587 := fun i => ⟨Int.emod_nonneg _ (by decide), Int.emod_lt_of_pos _ (by decide)⟩
  have e3 : ∀ (i : Int), 0 ≤ (i % 2147483563) ∧ i % 2147483563 < 2147483563 := fun i => ⟨Int.emod_nonneg _ (by decide), Int.emod_lt_of_pos _ (by decide)⟩
  have g := get_draws h
  generalize hx : (n * 39373 + 83) % 2147483647 = x
  have hx1 := e1 (n * 39373 + 83); rw [hx] at hx1
  generalize hy : (x * x + 52713 * k + 29) % 2147483587 = y
  have hy1 := e2 (x * x + 52713 * k + 29); rw [hy] at hy1
  generalize hw : (y * 40692) % 2147483563 = w
  refine ⟨w / 64 % many, Int.emod_nonneg _ (by omega), Int.emod_lt_of_pos _ hm, ?_⟩
  simp only [mSeq, mSet, mBin, mC, mCons, mNil, mD, mRet, mV (i := 2) (env := [some (.r 0), some (.d (.int many)), some (.d (.int n)), z]) rfl, bok, tok, mls n 39373 st (lg hn (by omega)) (by decide), ads, fint, mds _ 2147483647 st (by decide), hx, List.set]
  simp only [mV (i := 2) (env := [some (.r 0), some (.d (.int many)), some (.d (.int x)), z]) rfl, mV (i := 0) (env := [some (.r 0), some (.d (.int many)), some (.d (.int x)), z]) rfl, bok, tok, g, mls x x st (lg hx1.1 (by omega)) (lg hx1.1 (by omega)), mls 52713 k st (by decide) (lg hk (by omega)), ads, fint, mds _ 2147483587 st (by decide), hy, List.set]
  simp only [mV (i := 2) (env := [some (.r 0), some (.d (.int many)), some (.d (.int y)), z]) rfl, bok, tok, mls y 40692 st (lg hy1.1 (by omega)) (by decide), ads, fint, mds _ 2147483563 st (by decide), hw, List.set]
  simp only [mV (i := 2) (env := [some (.r 0), some (.d (.int many)), some (.d (.int w)), z]) rfl, mV (i := 1) (env := [some (.r 0), some (.d (.int many)), some (.d (.int w)), z]) rfl, bok, tok, fds _ 64 st (by decide) (by decide), fint, mds _ many st hm]
end G

set_option Elab.async false
set_option linter.all false
set_option maxRecDepth 100000
set_option maxHeartbeats 4000000
namespace G
open PySem PySem.Spec Dd
abbrev ci (cs : List Int) : Ob := .lst (cs.map fun i => .d (.int i))
theorem set0 {st : Sto} {o ob : Ob} (h : st[0]? = some ob) : (st.set 0 o)[0]? = some o := List.getElem?_set_self (List.getElem?_eq_some_iff.mp h).1
theorem setc {st : Sto} {o ob : Ob} {c : Nat} (h : st[c]? = some ob) : (st.set c o)[c]? = some o := List.getElem?_set_self (List.getElem?_eq_some_iff.mp h).1
theorem setn {st : Sto} {o : Ob} {c i : Nat} (h : c ≠ i) : (st.set c o)[i]? = st[i]? := List.getElem?_set_ne h
theorem neq_cells {st : Sto} {c : Nat} {cs : List Int} (h : st[c]? = some (ci cs)) : dEq true (.r c) (.d (.list [])) st = .ok (.d (.bool (!cs.isEmpty))) st := by
  have e : peek (.r c) st = some (.list (cs.map PyData.int)) := by
    show (match st[c]? with | some (.lst us) => (datas us).map PyData.list | _ => none) = _
    rw [h]
    show (datas (cs.map fun i => U.d (.int i))).map PyData.list = _
    rw [datas_ints]; rfl
  have e2 : peek (.d (.list [])) st = some (.list []) := rfl
  unfold dEq
  rw [e, e2]
  show (if (SeqAt.shaped (.list (cs.map PyData.int)) && SeqAt.shaped (.list [])) = true then EO.ok (U.d (.bool (if true = true then !PyData.eqv (.list (cs.map PyData.int)) (.list []) else PyData.eqv (.list (cs.map PyData.int)) (.list [])))) st else .bad) = _
  rw [shaped_ints, if_pos (by decide), if_pos rfl, eqv_nil]
theorem pop_cells {st : Sto} {c : Nat} {cs : List Int} {x : Int} (h : st[c]? = some (ci (cs ++ [x]))) : fPop (.r c) [] st = .ok (.d (.int x)) (st.set c (ci cs)) := by
  show (match st[c]? with | some (.lst xs) => (match xs[xs.length - 1]? with | some y => EO.ok y (st.set c (.lst xs.dropLast)) | none => .bad) | _ => .bad) = _
  rw [h]
  show (match ((cs ++ [x]).map fun i => U.d (.int i))[((cs ++ [x]).map fun i => U.d (.int i)).length - 1]? with | some y => EO.ok y (st.set c (.lst ((cs ++ [x]).map fun i => U.d (.int i)).dropLast)) | none => .bad) = _
  have e : ((cs ++ [x]).map fun i => U.d (.int i))[((cs ++ [x]).map fun i => U.d (.int i)).length - 1]? = some (.d (.int x)) := by simp
  rw [e]
  simp [ci]
theorem app_cells {st : Sto} {c : Nat} {cs : List Int} {x : Int} (h : st[c]? = some (ci cs)) (hl : cs.length ≤ 100) : fAppend (.r c) [.d (.int x)] st = .ok (.d .none) (st.set c (ci (cs ++ [x]))) := by
  show (match st[c]? with | some (.lst xs) => if xs.length < 10000000 then EO.ok (U.d .none) (st.set c (.lst (xs ++ [U.d (.int x)]))) else .bad | _ => .bad) = _
  rw [h]
  show (if (cs.map fun i => U.d (.int i)).length < 10000000 then EO.ok (U.d .none) (st.set c (.lst ((cs.map fun i => U.d (.int i)) ++ [U.d (.int x)]))) else .bad) = _
  rw [if_pos (by rw [List.length_map]; omega)]
  simp [ci]
theorem isl {st : Sto} {c : Nat} {cs : List Int} (h : st[c]? = some (ci cs)) : isStL (.r c) st = true := by
  show (match st[c]? with | some (.lst _) => true | _ => false) = true
  rw [h]
theorem max2 (i j : Int) (st : Sto) : fMax2 [.d (.int i), .d (.int j)] st = .ok (.d (.int (if j > i then j else i))) st := rfl
theorem pow18 (st : Sto) : dPow (.d (.int 10)) (.d (.int 18)) st = .ok (.d (.int 1000000000000000000)) st := by
  show (if decide (0 ≤ (18 : Int) ∧ (18 : Int) ≤ 1000000 ∧ (10 : Int).natAbs < 2 ^ 64) = true then EO.ok (U.d (.int ((10 : Int) ^ (18 : Int).toNat))) st else .bad) = _
  rw [if_pos (by decide)]; rfl
theorem ges (i j : Int) (st : Sto) : dGe (.d (.int i)) (.d (.int j)) st = .ok (.d (.bool (decide (j ≤ i)))) st := rfl
theorem tst (b : Bool) (st : Sto) (env : En) (m : ME) (st' : Sto) (h : m env st = .ok (.d (.bool b)) st') : mTest m env st = .ok b st' := by
  unfold mTest; rw [h]; rfl
theorem draw_ok {st : Sto} {b many : Int} (D : DeckAt st b) (hb : b ≤ 100000) (hm : 0 < many) (hm2 : many ≤ 100000) : ∃ r st', m_law_draw [.r 0, .d (.int many)] st = .ok (.d (.int r)) st' ∧ 0 ≤ r ∧ r < many ∧ DeckAt st' (b + 1) ∧ st'.length = st.length := by
  obtain ⟨c, m, k, cs, h0, hc0, hc, m0, m1, k0, k1, hl⟩ := D.ex
  have h1 : (st.set 0 (dk c m (k + 1)))[0]? = some (dk c m (k + 1)) := set0 h0
  have h1c : (st.set 0 (dk c m (k + 1)))[c]? = some (ci cs) := (setn (Ne.symm hc0)).trans hc
  have env0 : ([.r 0, .d (.int many)] : List U).map some ++ List.replicate (4 - ([.r 0, .d (.int many)] : List U).length) none = [some (.r 0), some (.d (.int many)), none, none] := rfl
  have q0 : mPut (mVar 0) (mD (.str "draws")) (mBin dAdd (mBin dKey (mVar 0) (mD (.str "draws"))) (mD (.int 1))) [some (.r 0), some (.d (.int many)), none, none] st = .nx [some (.r 0), some (.d (.int many)), none, none] (st.set 0 (dk c m (k + 1))) := by
    simp only [mPut, mBin, mD, mV (i := 0) (env := [some (.r 0), some (.d (.int many)), none, none]) rfl, bok, tok, get_draws h0, ads, put_draws h0]
  have q1 : mSet 2 (mBin dAdd (mBin dKey (mVar 0) (mD (.str "mixed"))) (mBin (dMul false) (mD (.int 69621)) (mBin dKey (mVar 0) (mD (.str "draws"))))) [some (.r 0), some (.d (.int many)), none, none] (st.set 0 (dk c m (k + 1))) = .nx [some (.r 0), some (.d (.int many)), some (.d (.int (m + 69621 * (k + 1)))), none] (st.set 0 (dk c m (k + 1))) := by
    simp only [mSet, mBin, mD, mV (i := 0) (env := [some (.r 0), some (.d (.int many)), none, none]) rfl, bok, tok, get_mixed h1, get_draws h1, mls 69621 (k + 1) _ (by decide) (lg (by omega) (by omega)), ads, List.set]
  generalize hst1 : st.set 0 (dk c m (k + 1)) = st1 at h1 h1c q0 q1
  have len1 : st1.length = st.length := by rw [← hst1]; simp
  have test : mTest (mBin (dEq true) (mBin dKey (mVar 0) (mD (.str "cells"))) (mLst false mNil)) [some (.r 0), some (.d (.int many)), some (.d (.int (m + 69621 * (k + 1)))), none] st1 = .ok (!cs.isEmpty) st1 := by
    refine tst _ _ _ _ _ ?_
    have e : mLst false mNil [some (.r 0), some (.d (.int many)), some (.d (.int (m + 69621 * (k + 1)))), none] st1 = .ok (.d (.list [])) st1 := rfl
    simp only [mBin, mD, mV (i := 0) (env := [some (.r 0), some (.d (.int many)), some (.d (.int (m + 69621 * (k + 1)))), none]) rfl, bok, get_cells h1, e, neq_cells h1c]
  unfold m_law_draw mFun
  rw [env0]
  unfold b_law_draw
  rw [mSeq, q0]
  dsimp only
  rw [mSeq, q1]
  dsimp only
  rw [mSeq, mIfS, test, tok]
  rcases List.eq_nil_or_concat cs with rfl | ⟨pre, x, rfl⟩
  · -- no cells
    obtain ⟨r, r0, r1, e⟩ := draw_tail (n := m + 69621 * (k + 1)) (many := many) (z := none) h1 (by omega) (by omega) (by omega) (by omega) hm
    refine ⟨r, st1, ?_, r0, r1, ⟨c, m, k + 1, [], h1, hc0, h1c, m0, m1, by omega, by omega, hl⟩, len1⟩
    rw [show (!([] : List Int).isEmpty) = false from rfl, if_neg Bool.false_ne_true]
    show (match (mSeq _ _ : MS) [some (.r 0), some (.d (.int many)), some (.d (.int (m + 69621 * (k + 1)))), none] st1 with
      | .nx _ st' => EO.ok (U.d .none) st' | .rt u st' => .ok u st' | .ex x _ st' => .ex x st' | _ => .bad) = _
    rw [e]
  · have hcat : pre.concat x = pre ++ [x] := List.concat_eq_append ..
    rw [hcat] at h1c hl test
    rw [hcat, show (!(pre ++ [x]).isEmpty) = true by simp, if_pos rfl]
    have hlp : pre.length ≤ 100 := by rw [List.length_append] at hl; simp at hl; omega
    have h2 : (st1.set c (ci pre))[0]? = some (dk c m (k + 1)) := (setn hc0).trans h1
    have h2c : (st1.set c (ci pre))[c]? = some (ci pre) := setc h1c
    have q2 : mSet 3 (mMethL fPop (mBin dKey (mVar 0) (mD (.str "cells"))) mNil) [some (.r 0), some (.d (.int many)), some (.d (.int (m + 69621 * (k + 1)))), none] st1 = .nx [some (.r 0), some (.d (.int many)), some (.d (.int (m + 69621 * (k + 1)))), some (.d (.int x))] (st1.set c (ci pre)) := by
      simp only [mSet, mMethL, mBin, mD, mNil, mV (i := 0) (env := [some (.r 0), some (.d (.int many)), some (.d (.int (m + 69621 * (k + 1)))), none]) rfl, bok, tok, get_cells h1, isl h1c, if_true, pop_cells h1c, List.set]
    have len2 : (st1.set c (ci pre)).length = st.length := by simp [len1]
    generalize st1.set c (ci pre) = st2 at h2 h2c q2 len2
    have t2 : mTest (mBin dGe (mVar 3) (mBin dPow (mD (.int 10)) (mD (.int 18)))) [some (.r 0), some (.d (.int many)), some (.d (.int (m + 69621 * (k + 1)))), some (.d (.int x))] st2 = .ok (decide (1000000000000000000 ≤ x)) st2 := by
      refine tst _ _ _ _ _ ?_
      simp only [mBin, mD, mV (i := 3) (env := [some (.r 0), some (.d (.int many)), some (.d (.int (m + 69621 * (k + 1)))), some (.d (.int x))]) rfl, bok, pow18, ges]
    rw [mSeq, q2]
    dsimp only
    rw [mSeq, mIfS, t2, tok]
    by_cases hx : 1000000000000000000 ≤ x
    · rw [decide_eq_true hx, if_pos rfl]
      have h3 : (st2.set c (ci (pre ++ [x / (if many > 2 then many else 2)])))[0]? = some (dk c m (k + 1)) := (setn hc0).trans h2
      have h3c : (st2.set c (ci (pre ++ [x / (if many > 2 then many else 2)])))[c]? = some (ci (pre ++ [x / (if many > 2 then many else 2)])) := setc h2c
      have q3 : mExpr (mMethL fAppend (mBin dKey (mVar 0) (mD (.str "cells"))) (mCons (mBin dFdiv (mVar 3) (mC fMax2 (mCons (mD (.int 2)) (mCons (mVar 1) mNil)))) mNil)) [some (.r 0), some (.d (.int many)), some (.d (.int (m + 69621 * (k + 1)))), some (.d (.int x))] st2 = .nx [some (.r 0), some (.d (.int many)), some (.d (.int (m + 69621 * (k + 1)))), some (.d (.int x))] (st2.set c (ci (pre ++ [x / (if many > 2 then many else 2)]))) := by
        have hd : 0 < (if many > 2 then many else 2) := by split <;> omega
        have hd2 : ((if many > 2 then many else 2) : Int).natAbs.log2 < 9000 := by
          have : ((if many > 2 then many else 2) : Int).natAbs ≤ 100000 := by split <;> omega
          have h9 : ((if many > 2 then many else 2) : Int).natAbs ≠ 0 := by split <;> omega
          have := (Nat.log2_lt (k := 9000) h9).mpr (Nat.lt_of_le_of_lt this (Nat.lt_of_lt_of_le (show 100000 < 2 ^ 17 by decide) (Nat.pow_le_pow_right (by decide) (by decide))))
          exact this
        simp only [mExpr, mMethL, mBin, mD, mC, mCons, mNil, mV (i := 0) (env := [some (.r 0), some (.d (.int many)), some (.d (.int (m + 69621 * (k + 1)))), some (.d (.int x))]) rfl, mV (i := 1) (env := [some (.r 0), some (.d (.int many)), some (.d (.int (m + 69621 * (k + 1)))), some (.d (.int x))]) rfl, mV (i := 3) (env := [some (.r 0), some (.d (.int many)), some (.d (.int (m + 69621 * (k + 1)))), some (.d (.int x))]) rfl, bok, tok, get_cells h2, isl h2c, if_true, max2, fds _ _ _ hd hd2, app_cells h2c hlp]
      have len3 : (st2.set c (ci (pre ++ [x / (if many > 2 then many else 2)]))).length = st.length := by simp [len2]
      generalize st2.set c (ci (pre ++ [x / (if many > 2 then many else 2)])) = st3 at h3 h3c q3 len3
      rw [mSeq, q3]
      dsimp only
      have q4 : mRet (mBin dMod (mC fInt (mCons (mVar 3) mNil)) (mVar 1)) [some (.r 0), some (.d (.int many)), some (.d (.int (m + 69621 * (k + 1)))), some (.d (.int x))] st3 = .rt (.d (.int (x % many))) st3 := by
        simp only [mRet, mBin, mC, mCons, mNil, mV (i := 1) (env := [some (.r 0), some (.d (.int many)), some (.d (.int (m + 69621 * (k + 1)))), some (.d (.int x))]) rfl, mV (i := 3) (env := [some (.r 0), some (.d (.int many)), some (.d (.int (m + 69621 * (k + 1)))), some (.d (.int x))]) rfl, bok, tok, fint, mds _ many _ hm]
      rw [mSeq, q4]
      exact ⟨x % many, st3, rfl, Int.emod_nonneg _ (by omega), Int.emod_lt_of_pos _ hm, ⟨c, m, k + 1, _, h3, hc0, h3c, m0, m1, by omega, by omega, by rw [List.length_append]; rw [List.length_append] at hl; simpa using hl⟩, len3⟩
    · rw [decide_eq_false hx, if_neg Bool.false_ne_true]
      have q5 : mSet 2 (mBin dAdd (mVar 2) (mBin dMod (mC fInt (mCons (mVar 3) mNil)) (mD (.int 2147483629)))) [some (.r 0), some (.d (.int many)), some (.d (.int (m + 69621 * (k + 1)))), some (.d (.int x))] st2 = .nx [some (.r 0), some (.d (.int many)), some (.d (.int (m + 69621 * (k + 1) + x % 2147483629))), some (.d (.int x))] st2 := by
        simp only [mSet, mBin, mC, mCons, mNil, mD, mV (i := 2) (env := [some (.r 0), some (.d (.int many)), some (.d (.int (m + 69621 * (k + 1)))), some (.d (.int x))]) rfl, mV (i := 3) (env := [some (.r 0), some (.d (.int many)), some (.d (.int (m + 69621 * (k + 1)))), some (.d (.int x))]) rfl, bok, tok, fint, mds _ 2147483629 _ (by decide), ads, List.set]
      have x0 : 0 ≤ x % 2147483629 := Int.emod_nonneg _ (by decide)
      have x1 : x % 2147483629 < 2147483629 := Int.emod_lt_of_pos _ (by decide)
      obtain ⟨r, r0, r1, e⟩ := draw_tail (n := m + 69621 * (k + 1) + x % 2147483629) (many := many) (z := some (.d (.int x))) h2 (by omega) (by omega) (by omega) (by omega) hm
      refine ⟨r, st2, ?_, r0, r1, ⟨c, m, k + 1, pre, h2, hc0, h2c, m0, m1, by omega, by omega, hlp⟩, len2⟩
      rw [mSkip]
      dsimp only
      rw [mSeq, q5]
      dsimp only
      rw [mSkip]
      dsimp only
      rw [e]
end G

set_option Elab.async false
set_option linter.all false
set_option maxRecDepth 100000
set_option maxHeartbeats 4000000
namespace G
open PySem PySem.Spec Dd L2
theorem DeckAt.app {st : Sto} {b : Int} (D : DeckAt st b) (l : Sto) : DeckAt (st ++ l) b := by
  obtain ⟨c, m, k, cs, h0, hc0, hc, r⟩ := D.ex
  have a : ∀ {i : Nat} {o : Ob}, st[i]? = some o → (st ++ l)[i]? = some o := fun {i o} h => by
    rw [List.getElem?_append_left (List.getElem?_eq_some_iff.mp h).1]; exact h
  exact ⟨c, m, k, cs, a h0, hc0, a hc, r⟩
theorem at_ok {us : List U} {r : Int} (h0 : 0 ≤ r) (h1 : r < us.length) : ∃ u, us[r.toNat]? = some u ∧ atI us r = some u := by
  have hl : r.toNat < us.length := by omega
  refine ⟨us[r.toNat], List.getElem?_eq_getElem hl, ?_⟩
  have e : ixN us.length r = some r.toNat := by
    unfold ixN
    rw [if_pos h0, if_pos h1]
  unfold atI
  rw [e]
  exact List.getElem?_eq_getElem hl
theorem callS {m : MF} {a : MA} {env : En} {st st' : Sto} {us : List U} (h : a env st = .ok us st') : mCallS m [] a env st = m us st' := by
  unfold mCallS; rw [h, bok, List.append_nil]
theorem pick_ok {st : Sto} {b : Int} {xs : List PyData} (D : DeckAt st b) (hb : b ≤ 100000) (hm : 0 < xs.length) (hm2 : xs.length ≤ 100000) : ∃ x st', x ∈ xs ∧ m_law_pick [.r 0, .d (.list xs)] st = .ok (.d x) st' ∧ DeckAt st' (b + 1) ∧ st'.length = st.length := by
  obtain ⟨r, st', e, r0, r1, D', hl⟩ := draw_ok D hb (many := xs.length) (by omega) (by omega)
  have hlen : ((xs.map U.d).length : Int) = xs.length := by simp
  obtain ⟨u, hu, ha⟩ := at_ok (us := xs.map U.d) r0 (by rw [hlen]; exact r1)
  rw [List.getElem?_map] at hu
  obtain ⟨x, hx, rfl⟩ := Option.map_eq_some_iff.mp hu
  refine ⟨x, st', List.mem_of_getElem? hx, ?_, D', hl⟩
  have el : fLen [.d (.list xs)] st = .ok (.d (.int xs.length)) st := by
    show (match seqOf (.d (.list xs)) st with | some us => EO.ok (U.d (.int us.length)) st | none => .bad) = _
    show EO.ok (U.d (.int (xs.map U.d).length)) st = _
    rw [List.length_map]
  have ix : dIx (.d (.list xs)) (.d (.int r)) st' = .ok (.d x) st' := by
    show (match atI (xs.map U.d) r with | some z => EO.ok z st' | none => .bad) = _
    rw [ha]
  have ec : mCallS m_law_draw [] (mCons (mVar 0) (mCons (mC fLen (mCons (mVar 1) mNil)) mNil)) [some (.r 0), some (.d (.list xs))] st = .ok (.d (.int r)) st' := by
    rw [callS (us := [.r 0, .d (.int xs.length)]) (st' := st)]
    · exact e
    · simp only [mCons, mNil, mC, mV (i := 0) (env := [some (.r 0), some (.d (.list xs))]) rfl, mV (i := 1) (env := [some (.r 0), some (.d (.list xs))]) rfl, bok, el]
  unfold m_law_pick mFun
  show (match b_law_pick [some (.r 0), some (.d (.list xs))] st with
    | .nx _ st' => EO.ok (U.d .none) st' | .rt u st' => .ok u st' | .ex x _ st' => .ex x st' | _ => .bad) = _
  unfold b_law_pick
  rw [mSeq, mRet, mBin, mV (i := 1) (env := [some (.r 0), some (.d (.list xs))]) rfl, bok, ec, bok, ix, tok]
/-! ### constants of odd values -/
theorem frz_dk {st : Sto} {kus : List (Key × U)} {xs : List PyData} (h : datas (kus.map (·.2)) = some xs) : frz (.r st.length) (st ++ [.dK kus]) = .ok (.d (.dict ((kus.map fun q => kD q.1).zip xs))) (st ++ [.gone]) := by
  have e : (st ++ [Ob.dK kus])[st.length]? = some (.dK kus) := by simp
  unfold frz
  dsimp only
  rw [e]
  dsimp only
  rw [h]
  simp
theorem frzK (env : En) (st : Sto) : mFrz mNewK env st = .ok (.d (.dict [])) (st ++ [.gone]) := by
  unfold mFrz mNewK
  rw [bok]
  exact frz_dk (kus := []) rfl
theorem frzA (env : En) (st : Sto) {m : ME} {x : PyData} (h : ∀ env st, m env st = .ok (.d x) st) : mFrz (mDict [((mD (.str "a")), m)]) env st = .ok (.d (.dict [(.str "a", x)])) (st ++ [.gone]) := by
  have e : mDict [((mD (.str "a")), m)] env st = .ok (.r st.length) (st ++ [.dK [(.inr "a", .d x)]]) := by
    unfold mDict
    have ep : mPairs [((mD (.str "a")), m)] env (st ++ [.dK []]) = .ok [(.d (.str "a"), .d x)] (st ++ [.dK []]) := by
      simp only [mPairs, mD, bok, h]
    rw [ep, bok]
    have ek : keysU [(.d (.str "a"), .d x)] = some [(.inr "a", .d x)] := rfl
    have es : (st ++ [Ob.dK []])[st.length]? = some (.dK []) := by simp
    rw [ek, es]
    simp [mergeU, putU]
  unfold mFrz
  rw [e, bok]
  exact frz_dk (kus := [(.inr "a", .d x)]) rfl
end G

set_option Elab.async false
set_option linter.all false
set_option maxRecDepth 100000
set_option maxHeartbeats 8000000
namespace G
open PySem PySem.Spec Dd L2
def okv (x : PyData) : Bool := okShow x
theorem ret_fun {m : ME} {env : En} {st : Sto} : (match mSeq (mRet m) mSkip env st with
    | .nx _ st' => EO.ok (U.d .none) st' | .rt u st' => .ok u st' | .ex x _ st' => .ex x st' | _ => .bad) = m env st := by
  unfold mSeq mRet
  cases m env st <;> rfl
theorem datas_nil : datas [] = some [] := rfl
theorem datas_cons (x : PyData) (r : List U) : datas (.d x :: r) = (datas r).map (x :: ·) := rfl
theorem pow39 (st : Sto) : dPow (.d (.int 10)) (.d (.int 39)) st = .ok (.d (.int (10 ^ 39))) st := by
  show (if decide (0 ≤ (39 : Int) ∧ (39 : Int) ≤ 1000000 ∧ (10 : Int).natAbs < 2 ^ 64) = true then EO.ok (U.d (.int ((10 : Int) ^ (39 : Int).toNat))) st else .bad) = _
  rw [if_pos (by decide)]; rfl
theorem mkF (us : List U) (st : Sto) : mkL false us st = match datas us with | some xs => .ok (.d (.list xs)) st | none => .bad := rfl
def L1 : List PyData := [.none, .bool true, .bool false, .int 0, .int 1, .int (-1), .int 2, .int 4, .str "", .str "table", .tuple [], .tuple [.tuple []], .list [], .dict [], .tuple [.int 0], .tuple [.int 1, .int 0], .list [.int 1, .int 0], .int (10 ^ 39), .int 7, .int 9]
def L2' : List PyData := [.tuple [.tuple [.int 1]], .tuple [.tuple [.int 1, .int 0], .tuple [.int 0, .int 1]], .list [.int 1], .dict [(.str "a", .tuple [.int 1, .int 2])], .tuple [.int 2, .tuple [.tuple [.int 1]]], .tuple [.str "1", .int 2], .tuple [.none, .int 1], .str "a b\n~", .tuple [.int 1, .bool true], .str "12"]
theorem o1 (it : PyData) (st : Sto) : (mLst false (mCons (mD .none) (mCons (mD (.bool true)) (mCons (mD (.bool false)) (mCons (mD (.int 0)) (mCons (mD (.int 1)) (mCons (mNeg (mD (.int 1))) (mCons (mD (.int 2)) (mCons (mD (.int 4)) (mCons (mD (.str "")) (mCons (mD (.str "table")) (mCons (mTup mNil) (mCons (mTup (mCons (mTup mNil) mNil)) (mCons (mLst false mNil) (mCons (mFrz mNewK) (mCons (mTup (mCons (mD (.int 0)) mNil)) (mCons (mTup (mCons (mD (.int 1)) (mCons (mD (.int 0)) mNil))) (mCons (mLst false (mCons (mD (.int 1)) (mCons (mD (.int 0)) mNil))) (mCons (mBin dPow (mD (.int 10)) (mD (.int 39))) (mCons (mD (.int 7)) (mCons (mD (.int 9)) mNil))))))))))))))))))))) [some (.r 0), some (.d it), none] st = .ok (.d (.list L1)) (st ++ [.gone]) := by
  simp only [mLst, mTup, mCons, mNil, mD, mNeg, mBin, bok, frzK, pow39, mkF, datas_nil, datas_cons, Option.map_some, List.length_cons, List.length_nil, L1]
  rfl
theorem tup12 (env : En) (st : Sto) : mTup (mCons (mD (.int 1)) (mCons (mD (.int 2)) mNil)) env st = .ok (.d (.tuple [.int 1, .int 2])) st := rfl
theorem o2 (env : En) (st : Sto) : (mLst false (mCons (mTup (mCons (mTup (mCons (mD (.int 1)) mNil)) mNil)) (mCons (mTup (mCons (mTup (mCons (mD (.int 1)) (mCons (mD (.int 0)) mNil))) (mCons (mTup (mCons (mD (.int 0)) (mCons (mD (.int 1)) mNil))) mNil))) (mCons (mLst false (mCons (mD (.int 1)) mNil)) (mCons (mFrz (mDict [((mD (.str "a")), (mTup (mCons (mD (.int 1)) (mCons (mD (.int 2)) mNil))))])) (mCons (mTup (mCons (mD (.int 2)) (mCons (mTup (mCons (mTup (mCons (mD (.int 1)) mNil)) mNil)) mNil))) (mCons (mTup (mCons (mD (.str "1")) (mCons (mD (.int 2)) mNil))) (mCons (mTup (mCons (mD .none) (mCons (mD (.int 1)) mNil))) (mCons (mD (.str "a b\n~")) (mCons (mTup (mCons (mD (.int 1)) (mCons (mD (.bool true)) mNil))) (mCons (mD (.str "12")) mNil))))))))))) env st = .ok (.d (.list L2')) (st ++ [.gone]) := by
  simp only [frzA _ _ tup12, mLst, mTup, mCons, mNil, mD, mNeg, mBin, bok, mkF, datas_nil, datas_cons, Option.map_some, List.length_cons, List.length_nil, L2']
  rfl
end G

set_option Elab.async false
set_option linter.all false
set_option maxRecDepth 100000
set_option maxHeartbeats 8000000
namespace G
open PySem PySem.Spec Dd L2
noncomputable def S3 : MS := (mIfS (mTest (mIs "tuple" (mVar 1)))
  (mSeq (mSet 2 (mBin dAdd (mVar 2) (mBin (dMul false) (mLst false (mCons (mC (fList false) (mCons (mVar 1) mNil)) (mCons (mBin dAdd (mVar 1) (mTup (mCons (mD (.int 0)) mNil))) (mCons (mSlA false (mVar 1) (mPart (mD (.int 1))) mNoPart) (mCons (mSlA false (mVar 1) mNoPart (mPart (mNeg (mD (.int 1))))) (mCons (mRevA false (mVar 1)) (mCons (mBin dAdd (mVar 1) (mSlA false (mVar 1) mNoPart (mPart (mD (.int 1))))) (mCons (mTup (mCons (mVar 1) mNil)) (mCons (mBin dAdd (mSlA false (mVar 1) mNoPart (mPart (mD (.int 1)))) (mVar 1)) mNil))))))))) (mD (.int 3)))))
  mSkip)
  (mSeq (mIfS (mAnd (mTest (mIs "int" (mVar 1))) (mTest (mBin dLt (mC fAbs (mCons (mVar 1) mNil)) (mBin dPow (mD (.int 10)) (mD (.int 30))))))
  (mSeq (mSet 2 (mBin dAdd (mVar 2) (mBin (dMul false) (mLst false (mCons (mBin dAdd (mVar 1) (mD (.int 1))) (mCons (mBin dSub (mVar 1) (mD (.int 1))) (mCons (mNeg (mVar 1)) (mCons (mBin (dEq false) (mVar 1) (mD (.int 1))) (mCons (mBin (dEq true) (mVar 1) (mD (.int 0))) (mCons (mLst false (mCons (mVar 1) mNil)) (mCons (mTup (mCons (mVar 1) mNil)) (mCons (mC fStr (mCons (mVar 1) mNil)) (mCons (mBin dAdd (mVar 1) (mD (.int 7))) mNil)))))))))) (mD (.int 3)))))
  mSkip)
  (mSeq (mIfS (mTest (mIs "str" (mVar 1)))
  (mSeq (mSet 2 (mBin dAdd (mVar 2) (mBin (dMul false) (mLst false (mCons (mBin dAdd (mVar 1) (mD (.str " "))) (mCons (mSlA false (mVar 1) (mPart (mD (.int 1))) mNoPart) (mCons (mUpper (mVar 1)) (mCons (mLst false (mCons (mVar 1) mNil)) (mCons (mTup (mCons (mVar 1) mNil)) (mCons (mBin dAdd (mVar 1) (mVar 1)) mNil))))))) (mD (.int 2)))))
  mSkip)
  mSkip)
  mSkip))
  mSkip))
def itA : PyData := .tuple [.int 2, .tuple [.tuple [.int 1, .int 0], .tuple [.int 0, .int 1]]]
def r3 (xs : List PyData) : List PyData := (List.replicate 3 xs).flatten
def LA : List PyData := r3 [.list [.int 2, .tuple [.tuple [.int 1, .int 0], .tuple [.int 0, .int 1]]], .tuple [.int 2, .tuple [.tuple [.int 1, .int 0], .tuple [.int 0, .int 1]], .int 0], .tuple [.tuple [.tuple [.int 1, .int 0], .tuple [.int 0, .int 1]]], .tuple [.int 2], .tuple [.tuple [.tuple [.int 1, .int 0], .tuple [.int 0, .int 1]], .int 2],
  .tuple [.int 2, .tuple [.tuple [.int 1, .int 0], .tuple [.int 0, .int 1]], .int 2], .tuple [itA], .tuple [.int 2, .int 2, .tuple [.tuple [.int 1, .int 0], .tuple [.int 0, .int 1]]]]
def LB : List PyData := r3 [.int 4, .int 2, .int (-3), .bool false, .bool true, .list [.int 3], .tuple [.int 3], .str "3", .int 10]
def LC : List PyData := (List.replicate 2 [PyData.str "table 2 1 ", .str "able 2 1", .str "TABLE 2 1", .list [.str "table 2 1"], .tuple [.str "table 2 1"], .str "table 2 1table 2 1"]).flatten
theorem s3A (st : Sto) : S3 [some (.r 0), some (.d itA), some (.d (.list (L1 ++ L2')))] st = .nx [some (.r 0), some (.d itA), some (.d (.list ((L1 ++ L2') ++ LA)))] st := by
  kernel_rfl
theorem s3B (st : Sto) : S3 [some (.r 0), some (.d (.int 3)), some (.d (.list (L1 ++ L2')))] st = .nx [some (.r 0), some (.d (.int 3)), some (.d (.list ((L1 ++ L2') ++ LB)))] st := by
  kernel_rfl
theorem s3C (st : Sto) : S3 [some (.r 0), some (.d (.str "table 2 1")), some (.d (.list (L1 ++ L2')))] st = .nx [some (.r 0), some (.d (.str "table 2 1")), some (.d (.list ((L1 ++ L2') ++ LC)))] st := by
  kernel_rfl
theorem s3D (st : Sto) : S3 [some (.r 0), some (.d .none), some (.d (.list (L1 ++ L2')))] st = .nx [some (.r 0), some (.d .none), some (.d (.list (L1 ++ L2')))] st := by
  kernel_rfl
theorem odd_eq : b_law_odd = mSeq (mSet 2 (mLst false (mCons (mD .none) (mCons (mD (.bool true)) (mCons (mD (.bool false)) (mCons (mD (.int 0)) (mCons (mD (.int 1)) (mCons (mNeg (mD (.int 1))) (mCons (mD (.int 2)) (mCons (mD (.int 4)) (mCons (mD (.str "")) (mCons (mD (.str "table")) (mCons (mTup mNil) (mCons (mTup (mCons (mTup mNil) mNil)) (mCons (mLst false mNil) (mCons (mFrz mNewK) (mCons (mTup (mCons (mD (.int 0)) mNil)) (mCons (mTup (mCons (mD (.int 1)) (mCons (mD (.int 0)) mNil))) (mCons (mLst false (mCons (mD (.int 1)) (mCons (mD (.int 0)) mNil))) (mCons (mBin dPow (mD (.int 10)) (mD (.int 39))) (mCons (mD (.int 7)) (mCons (mD (.int 9)) mNil)))))))))))))))))))))) (mSeq (mSet 2 (mBin dAdd (mVar 2) (mLst false (mCons (mTup (mCons (mTup (mCons (mD (.int 1)) mNil)) mNil)) (mCons (mTup (mCons (mTup (mCons (mD (.int 1)) (mCons (mD (.int 0)) mNil))) (mCons (mTup (mCons (mD (.int 0)) (mCons (mD (.int 1)) mNil))) mNil))) (mCons (mLst false (mCons (mD (.int 1)) mNil)) (mCons (mFrz (mDict [((mD (.str "a")), (mTup (mCons (mD (.int 1)) (mCons (mD (.int 2)) mNil))))])) (mCons (mTup (mCons (mD (.int 2)) (mCons (mTup (mCons (mTup (mCons (mD (.int 1)) mNil)) mNil)) mNil))) (mCons (mTup (mCons (mD (.str "1")) (mCons (mD (.int 2)) mNil))) (mCons (mTup (mCons (mD .none) (mCons (mD (.int 1)) mNil))) (mCons (mD (.str "a b\n~")) (mCons (mTup (mCons (mD (.int 1)) (mCons (mD (.bool true)) mNil))) (mCons (mD (.str "12")) mNil))))))))))))) (mSeq S3 (mSeq (mRet (mCallS m_law_pick [] (mCons (mVar 0) (mCons (mVar 2) mNil)))) mSkip))) := rfl
end G

set_option Elab.async false
set_option linter.all false
set_option maxRecDepth 100000
set_option maxHeartbeats 8000000
namespace G
open PySem PySem.Spec Dd L2
def tellL (w : Str) (v : PyData) : PyData := .list [.tuple [.str w, v], .tuple [.str w, .str "base", .str "error"]]
def okW (x : PyData) : Bool := okShow x && PyData.strOk x.shown
def okV (v : PyData) : Bool := okW v && okW (tellL "table" v) && okW (tellL "text" v) && okW (tellL "lost" v)
def okP (x : PyData) : Bool := okV x && okV (.tuple [x, .list [x]])
def LAb : List PyData := LA.take 8
def LBb : List PyData := LB.take 9
def LCb : List PyData := LC.take 6
theorem LA_eq : LA = LAb ++ (LAb ++ LAb) := by rfl
theorem LB_eq : LB = LBb ++ (LBb ++ LBb) := by rfl
theorem LC_eq : LC = LCb ++ LCb := by rfl
theorem and4 {a b c d : Bool} (h1 : a = true) (h2 : b = true) (h3 : c = true) (h4 : d = true) : (a && b && c && d) = true := by subst h1; subst h2; subst h3; subst h4; rfl
theorem all8 {xs : List PyData} (h0 : xs.all okShow = true) (h1 : xs.all (fun x => okShow (.tuple [x, .list [x]])) = true)
  (h2 : xs.all (fun x => PyData.strOk (PyData.shown x)) = true) (h3 : xs.all (fun x => PyData.strOk (PyData.shown (.tuple [x, .list [x]]))) = true)
  (h4 : xs.all (fun x => okW (tellL "table" x)) = true) (h5 : xs.all (fun x => okW (tellL "text" x)) = true) (h6 : xs.all (fun x => okW (tellL "lost" x)) = true)
  (h7 : xs.all (fun x => okW (tellL "table" (.tuple [x, .list [x]]))) = true) (h8 : xs.all (fun x => okW (tellL "text" (.tuple [x, .list [x]]))) = true) (h9 : xs.all (fun x => okW (tellL "lost" (.tuple [x, .list [x]]))) = true) : xs.all okP = true := by
  rw [List.all_eq_true] at *
  intro x hx
  refine Bool.and_eq_true_iff.mpr ⟨and4 (Bool.and_eq_true_iff.mpr ⟨h0 x hx, h2 x hx⟩) (h4 x hx) (h5 x hx) (h6 x hx), and4 (Bool.and_eq_true_iff.mpr ⟨h1 x hx, h3 x hx⟩) (h7 x hx) (h8 x hx) (h9 x hx)⟩
end G

set_option Elab.async false
set_option linter.all false
set_option maxRecDepth 100000
set_option maxHeartbeats 8000000
namespace G
open PySem PySem.Spec Dd L2
theorem ok_L1 : (L1).all okP = true := all8 (by decide +kernel) (by decide +kernel) (by decide +kernel) (by decide +kernel) (by decide +kernel) (by decide +kernel) (by decide +kernel) (by decide +kernel) (by decide +kernel) (by decide +kernel)
end G

set_option Elab.async false
set_option linter.all false
set_option maxRecDepth 100000
set_option maxHeartbeats 8000000
namespace G
open PySem PySem.Spec Dd L2
theorem ok_L2 : (L2').all okP = true := all8 (by decide +kernel) (by decide +kernel) (by decide +kernel) (by decide +kernel) (by decide +kernel) (by decide +kernel) (by decide +kernel) (by decide +kernel) (by decide +kernel) (by decide +kernel)
end G

set_option Elab.async false
set_option linter.all false
set_option maxRecDepth 100000
set_option maxHeartbeats 8000000
namespace G
open PySem PySem.Spec Dd L2
theorem ok_LAb : (LAb).all okP = true := all8 (by decide +kernel) (by decide +kernel) (by decide +kernel) (by decide +kernel) (by decide +kernel) (by decide +kernel) (by decide +kernel) (by decide +kernel) (by decide +kernel) (by decide +kernel)
end G

set_option Elab.async false
set_option linter.all false
set_option maxRecDepth 100000
set_option maxHeartbeats 8000000
namespace G
open PySem PySem.Spec Dd L2
theorem ok_LBb : (LBb).all okP = true := all8 (by decide +kernel) (by decide +kernel) (by decide +kernel) (by decide +kernel) (by decide +kernel) (by decide +kernel) (by decide +kernel) (by decide +kernel) (by decide +kernel) (by decide +kernel)
end G

set_option Elab.async false
set_option linter.all false
set_option maxRecDepth 100000
set_option maxHeartbeats 8000000
namespace G
open PySem PySem.Spec Dd L2
theorem ok_LCb : (LCb).all okP = true := all8 (by decide +kernel) (by decide +kernel) (by decide +kernel) (by decide +kernel) (by decide +kernel) (by decide +kernel) (by decide +kernel) (by decide +kernel) (by decide +kernel) (by decide +kernel)
end G

set_option Elab.async false
set_option linter.all false
set_option maxRecDepth 100000
set_option maxHeartbeats 8000000
namespace Dd
open PySem PySem.Spec L2
/-! loops with nothing to hold -/
def compL0 (g : MG) (tt : MT) (te : ME) (env : En) : List U → List U → Sto → EO (List U)
  | [], acc, st => .ok acc st
  | u :: r, acc, st => match g u env st with
    | none => .bad
    | some env1 => (tt env1 st).bindN fun b st => if b then (te env1 st).bindN fun y st => if acc.length < 10000000 then compL0 g tt te env r (acc ++ [y]) st else .bad
      else compL0 g tt te env r acc st
theorem dep_nil (st : Sto) : depOk [] st := fun q h => by cases h
theorem compL_nil {g : MG} {tt : MT} {te : ME} {env : En} : ∀ {us acc : List U} {st : Sto}, compL [] g tt te env us acc st = compL0 g tt te env us acc st
  | [], acc, st => by unfold compL compL0; rw [if_pos (dep_nil st)]
  | u :: r, acc, st => by
    unfold compL compL0
    rw [if_pos (dep_nil st)]
    cases g u env st with
    | none => rfl
    | some env1 =>
      dsimp only
      congr 1
      funext b st
      cases b with
      | false => exact compL_nil
      | true =>
        rw [if_pos rfl, if_pos rfl]
        congr 1
        funext y st
        split
        · exact compL_nil
        · rfl
theorem mLc_eq {s : Bool} {vs : List Nat} {it : MI} {g : MG} {tt : MT} {te : ME} {env : En} {st st1 : Sto} {us : List U} (h : it env st = .ok (us, []) st1) : mLc s vs it g tt te env st = (compL0 g tt te (wipeE env vs) us [] st1).bindN fun us st => mkL s us st := by
  unfold mLc
  rw [h]
  show (compL [] g tt te (wipeE env vs) us [] st1).bindN _ = _
  rw [compL_nil]
theorem compL0_congr {g g' : MG} {tt : MT} {te : ME} {env : En} (h : ∀ u st, g u env st = g' u env st) : ∀ {us acc : List U} {st : Sto}, compL0 g tt te env us acc st = compL0 g' tt te env us acc st
  | [], _, _ => rfl
  | u :: r, acc, st => by
    unfold compL0
    rw [h]
    cases g' u env st with
    | none => rfl
    | some env1 =>
      dsimp only
      congr 1
      funext b st
      cases b with
      | false => exact compL0_congr h
      | true =>
        rw [if_pos rfl, if_pos rfl]
        congr 1
        funext y st
        split
        · exact compL0_congr h
        · rfl
theorem mLcH_eq {a : Addr} {j n : Nat} {s : Bool} {vs : List Nat} {it : ME} {g : MGs} {tt : MT} {te : ME} {env : En} {st st1 : Sto} {xs : List PyData} {c f : Str} {x : PyData} (he : env[j]? = some (some (.x a c f x))) (hw : (wipeE env vs)[j]? = some (some (.x a c f x))) (h : it env st = .ok (.d (.list xs)) st1) :
    mLcH a j s vs it (gTH a j n g) tt te env st = (compL0 (gT n g) tt te (wipeE env vs) (xs.map .d) [] st1).bindN fun us st => mkL s us st := by
  unfold mLcH
  rw [he]
  dsimp only
  rw [if_pos rfl, h]
  show (if isL (.d (.list xs)) = true then (compL [] (gTH a j n g) tt te (wipeE env vs) (xs.map .d) [] st1).bindN _ else .bad) = _
  rw [if_pos (show isL (.d (.list xs)) = true from rfl), compL_nil]
  have hc : ∀ (u : U) (st : Sto), gTH a j n g u (wipeE env vs) st = gT n g u (wipeE env vs) st := by
    intro u st
    unfold gTH
    rw [hw]
    dsimp only
    rw [if_pos rfl]
  rw [compL0_congr hc]
def forL0 (g : MG) (body : MS) : List U → En → Sto → SO
  | [], env, st => .nx env st
  | u :: r, env, st => match g u env st with
    | none => .bad
    | some env1 => match body env1 st with
      | .nx e s => forL0 g body r e s
      | .ct e s => forL0 g body r e s
      | .bk e s => .nx e s
      | o => o
theorem forL_nil {g : MG} {body : MS} : ∀ {us : List U} {env : En} {st : Sto}, forL [] g body us env st = forL0 g body us env st
  | [], env, st => by unfold forL forL0; rw [if_pos (dep_nil st)]
  | u :: r, env, st => by
    unfold forL forL0
    rw [if_pos (dep_nil st)]
    cases g u env st with
    | none => rfl
    | some env1 =>
      dsimp only
      cases body env1 st with
      | nx e s => exact forL_nil
      | ct e s => exact forL_nil
      | _ => rfl
theorem mFor_eq {it : MI} {g : MG} {b : MS} {env : En} {st st1 : Sto} {us : List U} (h : it env st = .ok (us, []) st1) : mFor it g b env st = forL0 g b us env st1 := by
  unfold mFor
  rw [h]
  exact forL_nil
theorem mHdl_true {c : MCl} {r : List MCl} {x : XD} {env : En} {st : Sto} {o : SO} (h : c.test.lookup x.cls = some true) (h2 : ∀ a, finO c.i (c.ms a (slO c.i (.x a x.cls x.fld x.val) env) st) = o) : mHdl (c :: r) x env st = o := by
  unfold mHdl
  rw [h]
  exact common_eq h2
theorem mHdl_false {c : MCl} {r : List MCl} {x : XD} {env : En} {st : Sto} {o : SO} (h : c.test.lookup x.cls = some false) (h2 : mHdl r x env st = o) : mHdl (c :: r) x env st = o := by
  unfold mHdl
  rw [h]
  exact h2
theorem mTry_ex {b : MS} {l : List MCl} {x : XD} {env env' : En} {st st' : Sto} {o : SO} (h : b env st = .ex x env' st') (h2 : mHdl l x env' st' = o) : mTry b l env st = o := by
  unfold mTry
  rw [h]
  exact h2
end Dd
namespace G
open PySem PySem.Spec Dd L2
noncomputable def K1 : MS := mSeq (mSet 1 (mLst false (mCons (mTup (mCons (mD (.str "table")) (mCons (mIsX tb_BadTable (mVar 0)) mNil))) (mCons (mTup (mCons (mD (.str "other")) (mCons (mIsX tb_OtherTable (mVar 0)) mNil))) (mCons (mTup (mCons (mD (.str "row")) (mCons (mIsX tb_BadRow (mVar 0)) mNil))) mNil))))) (mSeq (mSet 1 (mBin dAdd (mVar 1) (mLst false (mCons (mTup (mCons (mD (.str "number")) (mCons (mIsX tb_BadNumber (mVar 0)) mNil))) (mCons (mTup (mCons (mD (.str "poly")) (mCons (mIsX tb_BadPoly (mVar 0)) mNil))) (mCons (mTup (mCons (mD (.str "prime")) (mCons (mIsX tb_BadPrime (mVar 0)) mNil))) mNil)))))) (mSeq (mSet 1 (mBin dAdd (mVar 1) (mLst false (mCons (mTup (mCons (mD (.str "numbers")) (mCons (mIsX tb_BadNumbers (mVar 0)) mNil))) (mCons (mTup (mCons (mD (.str "word")) (mCons (mIsX tb_BadWord (mVar 0)) mNil))) (mCons (mTup (mCons (mD (.str "text")) (mCons (mIsX tb_BadText (mVar 0)) mNil))) mNil)))))) (mSeq (mSet 1 (mBin dAdd (mVar 1) (mLst false (mCons (mTup (mCons (mD (.str "lost")) (mCons (mIsX tb_Lost (mVar 0)) mNil))) (mCons (mTup (mCons (mD (.str "base")) (mCons (mIsX tb_TableError (mVar 0)) mNil))) (mCons (mTup (mCons (mD (.str "error")) (mCons (mIsX tb_Exception (mVar 0)) mNil))) mNil)))))) (mSeq (mSet 1 (mBin dAdd (mVar 1) (mLst false (mCons (mTup (mCons (mD (.str "value")) (mCons (mIsX tb_ValueError (mVar 0)) mNil))) (mCons (mTup (mCons (mD (.str "lookup")) (mCons (mIsX tb_LookupError (mVar 0)) mNil))) mNil))))) mSkip))))
def lc_it : MI := (mIt (mVar 1))
theorem classes_split : b_law_classes = mSeq (mSet 1 (mLst false (mCons (mTup (mCons (mD (.str "table")) (mCons (mIsX tb_BadTable (mVar 0)) mNil))) (mCons (mTup (mCons (mD (.str "other")) (mCons (mIsX tb_OtherTable (mVar 0)) mNil))) (mCons (mTup (mCons (mD (.str "row")) (mCons (mIsX tb_BadRow (mVar 0)) mNil))) mNil))))) (mSeq (mSet 1 (mBin dAdd (mVar 1) (mLst false (mCons (mTup (mCons (mD (.str "number")) (mCons (mIsX tb_BadNumber (mVar 0)) mNil))) (mCons (mTup (mCons (mD (.str "poly")) (mCons (mIsX tb_BadPoly (mVar 0)) mNil))) (mCons (mTup (mCons (mD (.str "prime")) (mCons (mIsX tb_BadPrime (mVar 0)) mNil))) mNil)))))) (mSeq (mSet 1 (mBin dAdd (mVar 1) (mLst false (mCons (mTup (mCons (mD (.str "numbers")) (mCons (mIsX tb_BadNumbers (mVar 0)) mNil))) (mCons (mTup (mCons (mD (.str "word")) (mCons (mIsX tb_BadWord (mVar 0)) mNil))) (mCons (mTup (mCons (mD (.str "text")) (mCons (mIsX tb_BadText (mVar 0)) mNil))) mNil)))))) (mSeq (mSet 1 (mBin dAdd (mVar 1) (mLst false (mCons (mTup (mCons (mD (.str "lost")) (mCons (mIsX tb_Lost (mVar 0)) mNil))) (mCons (mTup (mCons (mD (.str "base")) (mCons (mIsX tb_TableError (mVar 0)) mNil))) (mCons (mTup (mCons (mD (.str "error")) (mCons (mIsX tb_Exception (mVar 0)) mNil))) mNil)))))) (mSeq (mSet 1 (mBin dAdd (mVar 1) (mLst false (mCons (mTup (mCons (mD (.str "value")) (mCons (mIsX tb_ValueError (mVar 0)) mNil))) (mCons (mTup (mCons (mD (.str "lookup")) (mCons (mIsX tb_LookupError (mVar 0)) mNil))) mNil))))) (mSeq (mRet (mLc false (([("word", 2), ("it", 3)] : List (Str × Nat)).map (·.2)) (mIt (mVar 1)) (gT 2 (gCons' (gN 2) (gCons' (gN 3) gNil'))) (mTest (mVar 3)) (mVar 2))) mSkip))))) := rfl
def wordOf (c : Str) : Str := if c = "BadTable" then "table" else if c = "OtherTable" then "other" else if c = "BadRow" then "row" else if c = "BadNumber" then "number" else if c = "BadPoly" then "poly" else if c = "BadPrime" then "prime" else if c = "BadNumbers" then "numbers" else if c = "BadWord" then "word" else if c = "BadText" then "text" else "lost"
theorem cls_BadNumber_a (v : PyData) : (mSeq (mSet 1 (mLst false (mCons (mTup (mCons (mD (.str "table")) (mCons (mIsX tb_BadTable (mVar 0)) mNil))) (mCons (mTup (mCons (mD (.str "other")) (mCons (mIsX tb_OtherTable (mVar 0)) mNil))) (mCons (mTup (mCons (mD (.str "row")) (mCons (mIsX tb_BadRow (mVar 0)) mNil))) mNil))))) (mSeq (mSet 1 (mBin dAdd (mVar 1) (mLst false (mCons (mTup (mCons (mD (.str "number")) (mCons (mIsX tb_BadNumber (mVar 0)) mNil))) (mCons (mTup (mCons (mD (.str "poly")) (mCons (mIsX tb_BadPoly (mVar 0)) mNil))) (mCons (mTup (mCons (mD (.str "prime")) (mCons (mIsX tb_BadPrime (mVar 0)) mNil))) mNil)))))) (mSeq (mSet 1 (mBin dAdd (mVar 1) (mLst false (mCons (mTup (mCons (mD (.str "numbers")) (mCons (mIsX tb_BadNumbers (mVar 0)) mNil))) (mCons (mTup (mCons (mD (.str "word")) (mCons (mIsX tb_BadWord (mVar 0)) mNil))) (mCons (mTup (mCons (mD (.str "text")) (mCons (mIsX tb_BadText (mVar 0)) mNil))) mNil)))))) (mSeq (mSet 1 (mBin dAdd (mVar 1) (mLst false (mCons (mTup (mCons (mD (.str "lost")) (mCons (mIsX tb_Lost (mVar 0)) mNil))) (mCons (mTup (mCons (mD (.str "base")) (mCons (mIsX tb_TableError (mVar 0)) mNil))) (mCons (mTup (mCons (mD (.str "error")) (mCons (mIsX tb_Exception (mVar 0)) mNil))) mNil)))))) (mSeq (mSet 1 (mBin dAdd (mVar 1) (mLst false (mCons (mTup (mCons (mD (.str "value")) (mCons (mIsX tb_ValueError (mVar 0)) mNil))) (mCons (mTup (mCons (mD (.str "lookup")) (mCons (mIsX tb_LookupError (mVar 0)) mNil))) mNil))))) mSkip))))) [some (.e "BadNumber" "thing" v), none, none, none] [] = .nx [some (.e "BadNumber" "thing" v), some (.d (.list [.tuple [.str "table", .bool false], .tuple [.str "other", .bool false], .tuple [.str "row", .bool false], .tuple [.str "number", .bool true], .tuple [.str "poly", .bool false], .tuple [.str "prime", .bool false], .tuple [.str "numbers", .bool false], .tuple [.str "word", .bool false], .tuple [.str "text", .bool false], .tuple [.str "lost", .bool false], .tuple [.str "base", .bool true], .tuple [.str "error", .bool true], .tuple [.str "value", .bool false], .tuple [.str "lookup", .bool false]])), none, none] [] := by kernel_rfl
theorem cls_BadNumber_b (v : PyData) : (mLc false (([("word", 2), ("it", 3)] : List (Str × Nat)).map (·.2)) (mIt (mVar 1)) (gT 2 (gCons' (gN 2) (gCons' (gN 3) gNil'))) (mTest (mVar 3)) (mVar 2)) [some (.e "BadNumber" "thing" v), some (.d (.list [.tuple [.str "table", .bool false], .tuple [.str "other", .bool false], .tuple [.str "row", .bool false], .tuple [.str "number", .bool true], .tuple [.str "poly", .bool false], .tuple [.str "prime", .bool false], .tuple [.str "numbers", .bool false], .tuple [.str "word", .bool false], .tuple [.str "text", .bool false], .tuple [.str "lost", .bool false], .tuple [.str "base", .bool true], .tuple [.str "error", .bool true], .tuple [.str "value", .bool false], .tuple [.str "lookup", .bool false]])), none, none] [] = .ok (.d (.list [.str "number", .str "base", .str "error"])) [] := (mLc_eq (us := ([.tuple [.str "table", .bool false], .tuple [.str "other", .bool false], .tuple [.str "row", .bool false], .tuple [.str "number", .bool true], .tuple [.str "poly", .bool false], .tuple [.str "prime", .bool false], .tuple [.str "numbers", .bool false], .tuple [.str "word", .bool false], .tuple [.str "text", .bool false], .tuple [.str "lost", .bool false], .tuple [.str "base", .bool true], .tuple [.str "error", .bool true], .tuple [.str "value", .bool false], .tuple [.str "lookup", .bool false]] : List PyData).map .d) (st1 := []) (by rfl)).trans (by kernel_rfl)
theorem clsH_BadNumber_a (a : Addr) (v : PyData) : (mSeq (mSet 1 (mLst false (mCons (mTup (mCons (mD (.str "table")) (mCons (mIsX tb_BadTable (mVar 0)) mNil))) (mCons (mTup (mCons (mD (.str "other")) (mCons (mIsX tb_OtherTable (mVar 0)) mNil))) (mCons (mTup (mCons (mD (.str "row")) (mCons (mIsX tb_BadRow (mVar 0)) mNil))) mNil))))) (mSeq (mSet 1 (mBin dAdd (mVar 1) (mLst false (mCons (mTup (mCons (mD (.str "number")) (mCons (mIsX tb_BadNumber (mVar 0)) mNil))) (mCons (mTup (mCons (mD (.str "poly")) (mCons (mIsX tb_BadPoly (mVar 0)) mNil))) (mCons (mTup (mCons (mD (.str "prime")) (mCons (mIsX tb_BadPrime (mVar 0)) mNil))) mNil)))))) (mSeq (mSet 1 (mBin dAdd (mVar 1) (mLst false (mCons (mTup (mCons (mD (.str "numbers")) (mCons (mIsX tb_BadNumbers (mVar 0)) mNil))) (mCons (mTup (mCons (mD (.str "word")) (mCons (mIsX tb_BadWord (mVar 0)) mNil))) (mCons (mTup (mCons (mD (.str "text")) (mCons (mIsX tb_BadText (mVar 0)) mNil))) mNil)))))) (mSeq (mSet 1 (mBin dAdd (mVar 1) (mLst false (mCons (mTup (mCons (mD (.str "lost")) (mCons (mIsX tb_Lost (mVar 0)) mNil))) (mCons (mTup (mCons (mD (.str "base")) (mCons (mIsX tb_TableError (mVar 0)) mNil))) (mCons (mTup (mCons (mD (.str "error")) (mCons (mIsX tb_Exception (mVar 0)) mNil))) mNil)))))) (mSeq (mSet 1 (mBin dAdd (mVar 1) (mLst false (mCons (mTup (mCons (mD (.str "value")) (mCons (mIsX tb_ValueError (mVar 0)) mNil))) (mCons (mTup (mCons (mD (.str "lookup")) (mCons (mIsX tb_LookupError (mVar 0)) mNil))) mNil))))) mSkip))))) [some (.x a "BadNumber" "thing" v), none, none, none] [] = .nx [some (.x a "BadNumber" "thing" v), some (.d (.list [.tuple [.str "table", .bool false], .tuple [.str "other", .bool false], .tuple [.str "row", .bool false], .tuple [.str "number", .bool true], .tuple [.str "poly", .bool false], .tuple [.str "prime", .bool false], .tuple [.str "numbers", .bool false], .tuple [.str "word", .bool false], .tuple [.str "text", .bool false], .tuple [.str "lost", .bool false], .tuple [.str "base", .bool true], .tuple [.str "error", .bool true], .tuple [.str "value", .bool false], .tuple [.str "lookup", .bool false]])), none, none] [] := by kernel_rfl
theorem clsH_BadNumber_b (a : Addr) (v : PyData) : (mLcH a 0 false (([("word", 2), ("it", 3)] : List (Str × Nat)).map (·.2)) (mVar 1) (gTH a 0 2 (gCons' (gN 2) (gCons' (gN 3) gNil'))) (mTest (mVar 3)) (mVar 2)) [some (.x a "BadNumber" "thing" v), some (.d (.list [.tuple [.str "table", .bool false], .tuple [.str "other", .bool false], .tuple [.str "row", .bool false], .tuple [.str "number", .bool true], .tuple [.str "poly", .bool false], .tuple [.str "prime", .bool false], .tuple [.str "numbers", .bool false], .tuple [.str "word", .bool false], .tuple [.str "text", .bool false], .tuple [.str "lost", .bool false], .tuple [.str "base", .bool true], .tuple [.str "error", .bool true], .tuple [.str "value", .bool false], .tuple [.str "lookup", .bool false]])), none, none] [] = .ok (.d (.list [.str "number", .str "base", .str "error"])) [] := (mLcH_eq (xs := [.tuple [.str "table", .bool false], .tuple [.str "other", .bool false], .tuple [.str "row", .bool false], .tuple [.str "number", .bool true], .tuple [.str "poly", .bool false], .tuple [.str "prime", .bool false], .tuple [.str "numbers", .bool false], .tuple [.str "word", .bool false], .tuple [.str "text", .bool false], .tuple [.str "lost", .bool false], .tuple [.str "base", .bool true], .tuple [.str "error", .bool true], .tuple [.str "value", .bool false], .tuple [.str "lookup", .bool false]]) (st1 := []) (by rfl) (by rfl) (by rfl)).trans (by kernel_rfl)
theorem cls_BadNumbers_a (v : PyData) : (mSeq (mSet 1 (mLst false (mCons (mTup (mCons (mD (.str "table")) (mCons (mIsX tb_BadTable (mVar 0)) mNil))) (mCons (mTup (mCons (mD (.str "other")) (mCons (mIsX tb_OtherTable (mVar 0)) mNil))) (mCons (mTup (mCons (mD (.str "row")) (mCons (mIsX tb_BadRow (mVar 0)) mNil))) mNil))))) (mSeq (mSet 1 (mBin dAdd (mVar 1) (mLst false (mCons (mTup (mCons (mD (.str "number")) (mCons (mIsX tb_BadNumber (mVar 0)) mNil))) (mCons (mTup (mCons (mD (.str "poly")) (mCons (mIsX tb_BadPoly (mVar 0)) mNil))) (mCons (mTup (mCons (mD (.str "prime")) (mCons (mIsX tb_BadPrime (mVar 0)) mNil))) mNil)))))) (mSeq (mSet 1 (mBin dAdd (mVar 1) (mLst false (mCons (mTup (mCons (mD (.str "numbers")) (mCons (mIsX tb_BadNumbers (mVar 0)) mNil))) (mCons (mTup (mCons (mD (.str "word")) (mCons (mIsX tb_BadWord (mVar 0)) mNil))) (mCons (mTup (mCons (mD (.str "text")) (mCons (mIsX tb_BadText (mVar 0)) mNil))) mNil)))))) (mSeq (mSet 1 (mBin dAdd (mVar 1) (mLst false (mCons (mTup (mCons (mD (.str "lost")) (mCons (mIsX tb_Lost (mVar 0)) mNil))) (mCons (mTup (mCons (mD (.str "base")) (mCons (mIsX tb_TableError (mVar 0)) mNil))) (mCons (mTup (mCons (mD (.str "error")) (mCons (mIsX tb_Exception (mVar 0)) mNil))) mNil)))))) (mSeq (mSet 1 (mBin dAdd (mVar 1) (mLst false (mCons (mTup (mCons (mD (.str "value")) (mCons (mIsX tb_ValueError (mVar 0)) mNil))) (mCons (mTup (mCons (mD (.str "lookup")) (mCons (mIsX tb_LookupError (mVar 0)) mNil))) mNil))))) mSkip))))) [some (.e "BadNumbers" "thing" v), none, none, none] [] = .nx [some (.e "BadNumbers" "thing" v), some (.d (.list [.tuple [.str "table", .bool false], .tuple [.str "other", .bool false], .tuple [.str "row", .bool false], .tuple [.str "number", .bool false], .tuple [.str "poly", .bool false], .tuple [.str "prime", .bool false], .tuple [.str "numbers", .bool true], .tuple [.str "word", .bool false], .tuple [.str "text", .bool false], .tuple [.str "lost", .bool false], .tuple [.str "base", .bool true], .tuple [.str "error", .bool true], .tuple [.str "value", .bool false], .tuple [.str "lookup", .bool false]])), none, none] [] := by kernel_rfl
theorem cls_BadNumbers_b (v : PyData) : (mLc false (([("word", 2), ("it", 3)] : List (Str × Nat)).map (·.2)) (mIt (mVar 1)) (gT 2 (gCons' (gN 2) (gCons' (gN 3) gNil'))) (mTest (mVar 3)) (mVar 2)) [some (.e "BadNumbers" "thing" v), some (.d (.list [.tuple [.str "table", .bool false], .tuple [.str "other", .bool false], .tuple [.str "row", .bool false], .tuple [.str "number", .bool false], .tuple [.str "poly", .bool false], .tuple [.str "prime", .bool false], .tuple [.str "numbers", .bool true], .tuple [.str "word", .bool false], .tuple [.str "text", .bool false], .tuple [.str "lost", .bool false], .tuple [.str "base", .bool true], .tuple [.str "error", .bool true], .tuple [.str "value", .bool false], .tuple [.str "lookup", .bool false]])), none, none] [] = .ok (.d (.list [.str "numbers", .str "base", .str "error"])) [] := (mLc_eq (us := ([.tuple [.str "table", .bool false], .tuple [.str "other", .bool false], .tuple [.str "row", .bool false], .tuple [.str "number", .bool false], .tuple [.str "poly", .bool false], .tuple [.str "prime", .bool false], .tuple [.str "numbers", .bool true], .tuple [.str "word", .bool false], .tuple [.str "text", .bool false], .tuple [.str "lost", .bool false], .tuple [.str "base", .bool true], .tuple [.str "error", .bool true], .tuple [.str "value", .bool false], .tuple [.str "lookup", .bool false]] : List PyData).map .d) (st1 := []) (by rfl)).trans (by kernel_rfl)
theorem clsH_BadNumbers_a (a : Addr) (v : PyData) : (mSeq (mSet 1 (mLst false (mCons (mTup (mCons (mD (.str "table")) (mCons (mIsX tb_BadTable (mVar 0)) mNil))) (mCons (mTup (mCons (mD (.str "other")) (mCons (mIsX tb_OtherTable (mVar 0)) mNil))) (mCons (mTup (mCons (mD (.str "row")) (mCons (mIsX tb_BadRow (mVar 0)) mNil))) mNil))))) (mSeq (mSet 1 (mBin dAdd (mVar 1) (mLst false (mCons (mTup (mCons (mD (.str "number")) (mCons (mIsX tb_BadNumber (mVar 0)) mNil))) (mCons (mTup (mCons (mD (.str "poly")) (mCons (mIsX tb_BadPoly (mVar 0)) mNil))) (mCons (mTup (mCons (mD (.str "prime")) (mCons (mIsX tb_BadPrime (mVar 0)) mNil))) mNil)))))) (mSeq (mSet 1 (mBin dAdd (mVar 1) (mLst false (mCons (mTup (mCons (mD (.str "numbers")) (mCons (mIsX tb_BadNumbers (mVar 0)) mNil))) (mCons (mTup (mCons (mD (.str "word")) (mCons (mIsX tb_BadWord (mVar 0)) mNil))) (mCons (mTup (mCons (mD (.str "text")) (mCons (mIsX tb_BadText (mVar 0)) mNil))) mNil)))))) (mSeq (mSet 1 (mBin dAdd (mVar 1) (mLst false (mCons (mTup (mCons (mD (.str "lost")) (mCons (mIsX tb_Lost (mVar 0)) mNil))) (mCons (mTup (mCons (mD (.str "base")) (mCons (mIsX tb_TableError (mVar 0)) mNil))) (mCons (mTup (mCons (mD (.str "error")) (mCons (mIsX tb_Exception (mVar 0)) mNil))) mNil)))))) (mSeq (mSet 1 (mBin dAdd (mVar 1) (mLst false (mCons (mTup (mCons (mD (.str "value")) (mCons (mIsX tb_ValueError (mVar 0)) mNil))) (mCons (mTup (mCons (mD (.str "lookup")) (mCons (mIsX tb_LookupError (mVar 0)) mNil))) mNil))))) mSkip))))) [some (.x a "BadNumbers" "thing" v), none, none, none] [] = .nx [some (.x a "BadNumbers" "thing" v), some (.d (.list [.tuple [.str "table", .bool false], .tuple [.str "other", .bool false], .tuple [.str "row", .bool false], .tuple [.str "number", .bool false], .tuple [.str "poly", .bool false], .tuple [.str "prime", .bool false], .tuple [.str "numbers", .bool true], .tuple [.str "word", .bool false], .tuple [.str "text", .bool false], .tuple [.str "lost", .bool false], .tuple [.str "base", .bool true], .tuple [.str "error", .bool true], .tuple [.str "value", .bool false], .tuple [.str "lookup", .bool false]])), none, none] [] := by kernel_rfl
theorem clsH_BadNumbers_b (a : Addr) (v : PyData) : (mLcH a 0 false (([("word", 2), ("it", 3)] : List (Str × Nat)).map (·.2)) (mVar 1) (gTH a 0 2 (gCons' (gN 2) (gCons' (gN 3) gNil'))) (mTest (mVar 3)) (mVar 2)) [some (.x a "BadNumbers" "thing" v), some (.d (.list [.tuple [.str "table", .bool false], .tuple [.str "other", .bool false], .tuple [.str "row", .bool false], .tuple [.str "number", .bool false], .tuple [.str "poly", .bool false], .tuple [.str "prime", .bool false], .tuple [.str "numbers", .bool true], .tuple [.str "word", .bool false], .tuple [.str "text", .bool false], .tuple [.str "lost", .bool false], .tuple [.str "base", .bool true], .tuple [.str "error", .bool true], .tuple [.str "value", .bool false], .tuple [.str "lookup", .bool false]])), none, none] [] = .ok (.d (.list [.str "numbers", .str "base", .str "error"])) [] := (mLcH_eq (xs := [.tuple [.str "table", .bool false], .tuple [.str "other", .bool false], .tuple [.str "row", .bool false], .tuple [.str "number", .bool false], .tuple [.str "poly", .bool false], .tuple [.str "prime", .bool false], .tuple [.str "numbers", .bool true], .tuple [.str "word", .bool false], .tuple [.str "text", .bool false], .tuple [.str "lost", .bool false], .tuple [.str "base", .bool true], .tuple [.str "error", .bool true], .tuple [.str "value", .bool false], .tuple [.str "lookup", .bool false]]) (st1 := []) (by rfl) (by rfl) (by rfl)).trans (by kernel_rfl)
theorem cls_BadPoly_a (v : PyData) : (mSeq (mSet 1 (mLst false (mCons (mTup (mCons (mD (.str "table")) (mCons (mIsX tb_BadTable (mVar 0)) mNil))) (mCons (mTup (mCons (mD (.str "other")) (mCons (mIsX tb_OtherTable (mVar 0)) mNil))) (mCons (mTup (mCons (mD (.str "row")) (mCons (mIsX tb_BadRow (mVar 0)) mNil))) mNil))))) (mSeq (mSet 1 (mBin dAdd (mVar 1) (mLst false (mCons (mTup (mCons (mD (.str "number")) (mCons (mIsX tb_BadNumber (mVar 0)) mNil))) (mCons (mTup (mCons (mD (.str "poly")) (mCons (mIsX tb_BadPoly (mVar 0)) mNil))) (mCons (mTup (mCons (mD (.str "prime")) (mCons (mIsX tb_BadPrime (mVar 0)) mNil))) mNil)))))) (mSeq (mSet 1 (mBin dAdd (mVar 1) (mLst false (mCons (mTup (mCons (mD (.str "numbers")) (mCons (mIsX tb_BadNumbers (mVar 0)) mNil))) (mCons (mTup (mCons (mD (.str "word")) (mCons (mIsX tb_BadWord (mVar 0)) mNil))) (mCons (mTup (mCons (mD (.str "text")) (mCons (mIsX tb_BadText (mVar 0)) mNil))) mNil)))))) (mSeq (mSet 1 (mBin dAdd (mVar 1) (mLst false (mCons (mTup (mCons (mD (.str "lost")) (mCons (mIsX tb_Lost (mVar 0)) mNil))) (mCons (mTup (mCons (mD (.str "base")) (mCons (mIsX tb_TableError (mVar 0)) mNil))) (mCons (mTup (mCons (mD (.str "error")) (mCons (mIsX tb_Exception (mVar 0)) mNil))) mNil)))))) (mSeq (mSet 1 (mBin dAdd (mVar 1) (mLst false (mCons (mTup (mCons (mD (.str "value")) (mCons (mIsX tb_ValueError (mVar 0)) mNil))) (mCons (mTup (mCons (mD (.str "lookup")) (mCons (mIsX tb_LookupError (mVar 0)) mNil))) mNil))))) mSkip))))) [some (.e "BadPoly" "thing" v), none, none, none] [] = .nx [some (.e "BadPoly" "thing" v), some (.d (.list [.tuple [.str "table", .bool false], .tuple [.str "other", .bool false], .tuple [.str "row", .bool false], .tuple [.str "number", .bool false], .tuple [.str "poly", .bool true], .tuple [.str "prime", .bool false], .tuple [.str "numbers", .bool false], .tuple [.str "word", .bool false], .tuple [.str "text", .bool false], .tuple [.str "lost", .bool false], .tuple [.str "base", .bool true], .tuple [.str "error", .bool true], .tuple [.str "value", .bool false], .tuple [.str "lookup", .bool false]])), none, none] [] := by kernel_rfl
theorem cls_BadPoly_b (v : PyData) : (mLc false (([("word", 2), ("it", 3)] : List (Str × Nat)).map (·.2)) (mIt (mVar 1)) (gT 2 (gCons' (gN 2) (gCons' (gN 3) gNil'))) (mTest (mVar 3)) (mVar 2)) [some (.e "BadPoly" "thing" v), some (.d (.list [.tuple [.str "table", .bool false], .tuple [.str "other", .bool false], .tuple [.str "row", .bool false], .tuple [.str "number", .bool false], .tuple [.str "poly", .bool true], .tuple [.str "prime", .bool false], .tuple [.str "numbers", .bool false], .tuple [.str "word", .bool false], .tuple [.str "text", .bool false], .tuple [.str "lost", .bool false], .tuple [.str "base", .bool true], .tuple [.str "error", .bool true], .tuple [.str "value", .bool false], .tuple [.str "lookup", .bool false]])), none, none] [] = .ok (.d (.list [.str "poly", .str "base", .str "error"])) [] := (mLc_eq (us := ([.tuple [.str "table", .bool false], .tuple [.str "other", .bool false], .tuple [.str "row", .bool false], .tuple [.str "number", .bool false], .tuple [.str "poly", .bool true], .tuple [.str "prime", .bool false], .tuple [.str "numbers", .bool false], .tuple [.str "word", .bool false], .tuple [.str "text", .bool false], .tuple [.str "lost", .bool false], .tuple [.str "base", .bool true], .tuple [.str "error", .bool true], .tuple [.str "value", .bool false], .tuple [.str "lookup", .bool false]] : List PyData).map .d) (st1 := []) (by rfl)).trans (by kernel_rfl)
theorem clsH_BadPoly_a (a : Addr) (v : PyData) : (mSeq (mSet 1 (mLst false (mCons (mTup (mCons (mD (.str "table")) (mCons (mIsX tb_BadTable (mVar 0)) mNil))) (mCons (mTup (mCons (mD (.str "other")) (mCons (mIsX tb_OtherTable (mVar 0)) mNil))) (mCons (mTup (mCons (mD (.str "row")) (mCons (mIsX tb_BadRow (mVar 0)) mNil))) mNil))))) (mSeq (mSet 1 (mBin dAdd (mVar 1) (mLst false (mCons (mTup (mCons (mD (.str "number")) (mCons (mIsX tb_BadNumber (mVar 0)) mNil))) (mCons (mTup (mCons (mD (.str "poly")) (mCons (mIsX tb_BadPoly (mVar 0)) mNil))) (mCons (mTup (mCons (mD (.str "prime")) (mCons (mIsX tb_BadPrime (mVar 0)) mNil))) mNil)))))) (mSeq (mSet 1 (mBin dAdd (mVar 1) (mLst false (mCons (mTup (mCons (mD (.str "numbers")) (mCons (mIsX tb_BadNumbers (mVar 0)) mNil))) (mCons (mTup (mCons (mD (.str "word")) (mCons (mIsX tb_BadWord (mVar 0)) mNil))) (mCons (mTup (mCons (mD (.str "text")) (mCons (mIsX tb_BadText (mVar 0)) mNil))) mNil)))))) (mSeq (mSet 1 (mBin dAdd (mVar 1) (mLst false (mCons (mTup (mCons (mD (.str "lost")) (mCons (mIsX tb_Lost (mVar 0)) mNil))) (mCons (mTup (mCons (mD (.str "base")) (mCons (mIsX tb_TableError (mVar 0)) mNil))) (mCons (mTup (mCons (mD (.str "error")) (mCons (mIsX tb_Exception (mVar 0)) mNil))) mNil)))))) (mSeq (mSet 1 (mBin dAdd (mVar 1) (mLst false (mCons (mTup (mCons (mD (.str "value")) (mCons (mIsX tb_ValueError (mVar 0)) mNil))) (mCons (mTup (mCons (mD (.str "lookup")) (mCons (mIsX tb_LookupError (mVar 0)) mNil))) mNil))))) mSkip))))) [some (.x a "BadPoly" "thing" v), none, none, none] [] = .nx [some (.x a "BadPoly" "thing" v), some (.d (.list [.tuple [.str "table", .bool false], .tuple [.str "other", .bool false], .tuple [.str "row", .bool false], .tuple [.str "number", .bool false], .tuple [.str "poly", .bool true], .tuple [.str "prime", .bool false], .tuple [.str "numbers", .bool false], .tuple [.str "word", .bool false], .tuple [.str "text", .bool false], .tuple [.str "lost", .bool false], .tuple [.str "base", .bool true], .tuple [.str "error", .bool true], .tuple [.str "value", .bool false], .tuple [.str "lookup", .bool false]])), none, none] [] := by kernel_rfl
theorem clsH_BadPoly_b (a : Addr) (v : PyData) : (mLcH a 0 false (([("word", 2), ("it", 3)] : List (Str × Nat)).map (·.2)) (mVar 1) (gTH a 0 2 (gCons' (gN 2) (gCons' (gN 3) gNil'))) (mTest (mVar 3)) (mVar 2)) [some (.x a "BadPoly" "thing" v), some (.d (.list [.tuple [.str "table", .bool false], .tuple [.str "other", .bool false], .tuple [.str "row", .bool false], .tuple [.str "number", .bool false], .tuple [.str "poly", .bool true], .tuple [.str "prime", .bool false], .tuple [.str "numbers", .bool false], .tuple [.str "word", .bool false], .tuple [.str "text", .bool false], .tuple [.str "lost", .bool false], .tuple [.str "base", .bool true], .tuple [.str "error", .bool true], .tuple [.str "value", .bool false], .tuple [.str "lookup", .bool false]])), none, none] [] = .ok (.d (.list [.str "poly", .str "base", .str "error"])) [] := (mLcH_eq (xs := [.tuple [.str "table", .bool false], .tuple [.str "other", .bool false], .tuple [.str "row", .bool false], .tuple [.str "number", .bool false], .tuple [.str "poly", .bool true], .tuple [.str "prime", .bool false], .tuple [.str "numbers", .bool false], .tuple [.str "word", .bool false], .tuple [.str "text", .bool false], .tuple [.str "lost", .bool false], .tuple [.str "base", .bool true], .tuple [.str "error", .bool true], .tuple [.str "value", .bool false], .tuple [.str "lookup", .bool false]]) (st1 := []) (by rfl) (by rfl) (by rfl)).trans (by kernel_rfl)
theorem cls_BadPrime_a (v : PyData) : (mSeq (mSet 1 (mLst false (mCons (mTup (mCons (mD (.str "table")) (mCons (mIsX tb_BadTable (mVar 0)) mNil))) (mCons (mTup (mCons (mD (.str "other")) (mCons (mIsX tb_OtherTable (mVar 0)) mNil))) (mCons (mTup (mCons (mD (.str "row")) (mCons (mIsX tb_BadRow (mVar 0)) mNil))) mNil))))) (mSeq (mSet 1 (mBin dAdd (mVar 1) (mLst false (mCons (mTup (mCons (mD (.str "number")) (mCons (mIsX tb_BadNumber (mVar 0)) mNil))) (mCons (mTup (mCons (mD (.str "poly")) (mCons (mIsX tb_BadPoly (mVar 0)) mNil))) (mCons (mTup (mCons (mD (.str "prime")) (mCons (mIsX tb_BadPrime (mVar 0)) mNil))) mNil)))))) (mSeq (mSet 1 (mBin dAdd (mVar 1) (mLst false (mCons (mTup (mCons (mD (.str "numbers")) (mCons (mIsX tb_BadNumbers (mVar 0)) mNil))) (mCons (mTup (mCons (mD (.str "word")) (mCons (mIsX tb_BadWord (mVar 0)) mNil))) (mCons (mTup (mCons (mD (.str "text")) (mCons (mIsX tb_BadText (mVar 0)) mNil))) mNil)))))) (mSeq (mSet 1 (mBin dAdd (mVar 1) (mLst false (mCons (mTup (mCons (mD (.str "lost")) (mCons (mIsX tb_Lost (mVar 0)) mNil))) (mCons (mTup (mCons (mD (.str "base")) (mCons (mIsX tb_TableError (mVar 0)) mNil))) (mCons (mTup (mCons (mD (.str "error")) (mCons (mIsX tb_Exception (mVar 0)) mNil))) mNil)))))) (mSeq (mSet 1 (mBin dAdd (mVar 1) (mLst false (mCons (mTup (mCons (mD (.str "value")) (mCons (mIsX tb_ValueError (mVar 0)) mNil))) (mCons (mTup (mCons (mD (.str "lookup")) (mCons (mIsX tb_LookupError (mVar 0)) mNil))) mNil))))) mSkip))))) [some (.e "BadPrime" "thing" v), none, none, none] [] = .nx [some (.e "BadPrime" "thing" v), some (.d (.list [.tuple [.str "table", .bool false], .tuple [.str "other", .bool false], .tuple [.str "row", .bool false], .tuple [.str "number", .bool false], .tuple [.str "poly", .bool false], .tuple [.str "prime", .bool true], .tuple [.str "numbers", .bool false], .tuple [.str "word", .bool false], .tuple [.str "text", .bool false], .tuple [.str "lost", .bool false], .tuple [.str "base", .bool true], .tuple [.str "error", .bool true], .tuple [.str "value", .bool false], .tuple [.str "lookup", .bool false]])), none, none] [] := by kernel_rfl
theorem cls_BadPrime_b (v : PyData) : (mLc false (([("word", 2), ("it", 3)] : List (Str × Nat)).map (·.2)) (mIt (mVar 1)) (gT 2 (gCons' (gN 2) (gCons' (gN 3) gNil'))) (mTest (mVar 3)) (mVar 2)) [some (.e "BadPrime" "thing" v), some (.d (.list [.tuple [.str "table", .bool false], .tuple [.str "other", .bool false], .tuple [.str "row", .bool false], .tuple [.str "number", .bool false], .tuple [.str "poly", .bool false], .tuple [.str "prime", .bool true], .tuple [.str "numbers", .bool false], .tuple [.str "word", .bool false], .tuple [.str "text", .bool false], .tuple [.str "lost", .bool false], .tuple [.str "base", .bool true], .tuple [.str "error", .bool true], .tuple [.str "value", .bool false], .tuple [.str "lookup", .bool false]])), none, none] [] = .ok (.d (.list [.str "prime", .str "base", .str "error"])) [] := (mLc_eq (us := ([.tuple [.str "table", .bool false], .tuple [.str "other", .bool false], .tuple [.str "row", .bool false], .tuple [.str "number", .bool false], .tuple [.str "poly", .bool false], .tuple [.str "prime", .bool true], .tuple [.str "numbers", .bool false], .tuple [.str "word", .bool false], .tuple [.str "text", .bool false], .tuple [.str "lost", .bool false], .tuple [.str "base", .bool true], .tuple [.str "error", .bool true], .tuple [.str "value", .bool false], .tuple [.str "lookup", .bool false]] : List PyData).map .d) (st1 := []) (by rfl)).trans (by kernel_rfl)
theorem clsH_BadPrime_a (a : Addr) (v : PyData) : (mSeq (mSet 1 (mLst false (mCons (mTup (mCons (mD (.str "table")) (mCons (mIsX tb_BadTable (mVar 0)) mNil))) (mCons (mTup (mCons (mD (.str "other")) (mCons (mIsX tb_OtherTable (mVar 0)) mNil))) (mCons (mTup (mCons (mD (.str "row")) (mCons (mIsX tb_BadRow (mVar 0)) mNil))) mNil))))) (mSeq (mSet 1 (mBin dAdd (mVar 1) (mLst false (mCons (mTup (mCons (mD (.str "number")) (mCons (mIsX tb_BadNumber (mVar 0)) mNil))) (mCons (mTup (mCons (mD (.str "poly")) (mCons (mIsX tb_BadPoly (mVar 0)) mNil))) (mCons (mTup (mCons (mD (.str "prime")) (mCons (mIsX tb_BadPrime (mVar 0)) mNil))) mNil)))))) (mSeq (mSet 1 (mBin dAdd (mVar 1) (mLst false (mCons (mTup (mCons (mD (.str "numbers")) (mCons (mIsX tb_BadNumbers (mVar 0)) mNil))) (mCons (mTup (mCons (mD (.str "word")) (mCons (mIsX tb_BadWord (mVar 0)) mNil))) (mCons (mTup (mCons (mD (.str "text")) (mCons (mIsX tb_BadText (mVar 0)) mNil))) mNil)))))) (mSeq (mSet 1 (mBin dAdd (mVar 1) (mLst false (mCons (mTup (mCons (mD (.str "lost")) (mCons (mIsX tb_Lost (mVar 0)) mNil))) (mCons (mTup (mCons (mD (.str "base")) (mCons (mIsX tb_TableError (mVar 0)) mNil))) (mCons (mTup (mCons (mD (.str "error")) (mCons (mIsX tb_Exception (mVar 0)) mNil))) mNil)))))) (mSeq (mSet 1 (mBin dAdd (mVar 1) (mLst false (mCons (mTup (mCons (mD (.str "value")) (mCons (mIsX tb_ValueError (mVar 0)) mNil))) (mCons (mTup (mCons (mD (.str "lookup")) (mCons (mIsX tb_LookupError (mVar 0)) mNil))) mNil))))) mSkip))))) [some (.x a "BadPrime" "thing" v), none, none, none] [] = .nx [some (.x a "BadPrime" "thing" v), some (.d (.list [.tuple [.str "table", .bool false], .tuple [.str "other", .bool false], .tuple [.str "row", .bool false], .tuple [.str "number", .bool false], .tuple [.str "poly", .bool false], .tuple [.str "prime", .bool true], .tuple [.str "numbers", .bool false], .tuple [.str "word", .bool false], .tuple [.str "text", .bool false], .tuple [.str "lost", .bool false], .tuple [.str "base", .bool true], .tuple [.str "error", .bool true], .tuple [.str "value", .bool false], .tuple [.str "lookup", .bool false]])), none, none] [] := by kernel_rfl
theorem clsH_BadPrime_b (a : Addr) (v : PyData) : (mLcH a 0 false (([("word", 2), ("it", 3)] : List (Str × Nat)).map (·.2)) (mVar 1) (gTH a 0 2 (gCons' (gN 2) (gCons' (gN 3) gNil'))) (mTest (mVar 3)) (mVar 2)) [some (.x a "BadPrime" "thing" v), some (.d (.list [.tuple [.str "table", .bool false], .tuple [.str "other", .bool false], .tuple [.str "row", .bool false], .tuple [.str "number", .bool false], .tuple [.str "poly", .bool false], .tuple [.str "prime", .bool true], .tuple [.str "numbers", .bool false], .tuple [.str "word", .bool false], .tuple [.str "text", .bool false], .tuple [.str "lost", .bool false], .tuple [.str "base", .bool true], .tuple [.str "error", .bool true], .tuple [.str "value", .bool false], .tuple [.str "lookup", .bool false]])), none, none] [] = .ok (.d (.list [.str "prime", .str "base", .str "error"])) [] := (mLcH_eq (xs := [.tuple [.str "table", .bool false], .tuple [.str "other", .bool false], .tuple [.str "row", .bool false], .tuple [.str "number", .bool false], .tuple [.str "poly", .bool false], .tuple [.str "prime", .bool true], .tuple [.str "numbers", .bool false], .tuple [.str "word", .bool false], .tuple [.str "text", .bool false], .tuple [.str "lost", .bool false], .tuple [.str "base", .bool true], .tuple [.str "error", .bool true], .tuple [.str "value", .bool false], .tuple [.str "lookup", .bool false]]) (st1 := []) (by rfl) (by rfl) (by rfl)).trans (by kernel_rfl)
theorem cls_BadRow_a (v : PyData) : (mSeq (mSet 1 (mLst false (mCons (mTup (mCons (mD (.str "table")) (mCons (mIsX tb_BadTable (mVar 0)) mNil))) (mCons (mTup (mCons (mD (.str "other")) (mCons (mIsX tb_OtherTable (mVar 0)) mNil))) (mCons (mTup (mCons (mD (.str "row")) (mCons (mIsX tb_BadRow (mVar 0)) mNil))) mNil))))) (mSeq (mSet 1 (mBin dAdd (mVar 1) (mLst false (mCons (mTup (mCons (mD (.str "number")) (mCons (mIsX tb_BadNumber (mVar 0)) mNil))) (mCons (mTup (mCons (mD (.str "poly")) (mCons (mIsX tb_BadPoly (mVar 0)) mNil))) (mCons (mTup (mCons (mD (.str "prime")) (mCons (mIsX tb_BadPrime (mVar 0)) mNil))) mNil)))))) (mSeq (mSet 1 (mBin dAdd (mVar 1) (mLst false (mCons (mTup (mCons (mD (.str "numbers")) (mCons (mIsX tb_BadNumbers (mVar 0)) mNil))) (mCons (mTup (mCons (mD (.str "word")) (mCons (mIsX tb_BadWord (mVar 0)) mNil))) (mCons (mTup (mCons (mD (.str "text")) (mCons (mIsX tb_BadText (mVar 0)) mNil))) mNil)))))) (mSeq (mSet 1 (mBin dAdd (mVar 1) (mLst false (mCons (mTup (mCons (mD (.str "lost")) (mCons (mIsX tb_Lost (mVar 0)) mNil))) (mCons (mTup (mCons (mD (.str "base")) (mCons (mIsX tb_TableError (mVar 0)) mNil))) (mCons (mTup (mCons (mD (.str "error")) (mCons (mIsX tb_Exception (mVar 0)) mNil))) mNil)))))) (mSeq (mSet 1 (mBin dAdd (mVar 1) (mLst false (mCons (mTup (mCons (mD (.str "value")) (mCons (mIsX tb_ValueError (mVar 0)) mNil))) (mCons (mTup (mCons (mD (.str "lookup")) (mCons (mIsX tb_LookupError (mVar 0)) mNil))) mNil))))) mSkip))))) [some (.e "BadRow" "thing" v), none, none, none] [] = .nx [some (.e "BadRow" "thing" v), some (.d (.list [.tuple [.str "table", .bool false], .tuple [.str "other", .bool false], .tuple [.str "row", .bool true], .tuple [.str "number", .bool false], .tuple [.str "poly", .bool false], .tuple [.str "prime", .bool false], .tuple [.str "numbers", .bool false], .tuple [.str "word", .bool false], .tuple [.str "text", .bool false], .tuple [.str "lost", .bool false], .tuple [.str "base", .bool true], .tuple [.str "error", .bool true], .tuple [.str "value", .bool false], .tuple [.str "lookup", .bool false]])), none, none] [] := by kernel_rfl
theorem cls_BadRow_b (v : PyData) : (mLc false (([("word", 2), ("it", 3)] : List (Str × Nat)).map (·.2)) (mIt (mVar 1)) (gT 2 (gCons' (gN 2) (gCons' (gN 3) gNil'))) (mTest (mVar 3)) (mVar 2)) [some (.e "BadRow" "thing" v), some (.d (.list [.tuple [.str "table", .bool false], .tuple [.str "other", .bool false], .tuple [.str "row", .bool true], .tuple [.str "number", .bool false], .tuple [.str "poly", .bool false], .tuple [.str "prime", .bool false], .tuple [.str "numbers", .bool false], .tuple [.str "word", .bool false], .tuple [.str "text", .bool false], .tuple [.str "lost", .bool false], .tuple [.str "base", .bool true], .tuple [.str "error", .bool true], .tuple [.str "value", .bool false], .tuple [.str "lookup", .bool false]])), none, none] [] = .ok (.d (.list [.str "row", .str "base", .str "error"])) [] := (mLc_eq (us := ([.tuple [.str "table", .bool false], .tuple [.str "other", .bool false], .tuple [.str "row", .bool true], .tuple [.str "number", .bool false], .tuple [.str "poly", .bool false], .tuple [.str "prime", .bool false], .tuple [.str "numbers", .bool false], .tuple [.str "word", .bool false], .tuple [.str "text", .bool false], .tuple [.str "lost", .bool false], .tuple [.str "base", .bool true], .tuple [.str "error", .bool true], .tuple [.str "value", .bool false], .tuple [.str "lookup", .bool false]] : List PyData).map .d) (st1 := []) (by rfl)).trans (by kernel_rfl)
theorem clsH_BadRow_a (a : Addr) (v : PyData) : (mSeq (mSet 1 (mLst false (mCons (mTup (mCons (mD (.str "table")) (mCons (mIsX tb_BadTable (mVar 0)) mNil))) (mCons (mTup (mCons (mD (.str "other")) (mCons (mIsX tb_OtherTable (mVar 0)) mNil))) (mCons (mTup (mCons (mD (.str "row")) (mCons (mIsX tb_BadRow (mVar 0)) mNil))) mNil))))) (mSeq (mSet 1 (mBin dAdd (mVar 1) (mLst false (mCons (mTup (mCons (mD (.str "number")) (mCons (mIsX tb_BadNumber (mVar 0)) mNil))) (mCons (mTup (mCons (mD (.str "poly")) (mCons (mIsX tb_BadPoly (mVar 0)) mNil))) (mCons (mTup (mCons (mD (.str "prime")) (mCons (mIsX tb_BadPrime (mVar 0)) mNil))) mNil)))))) (mSeq (mSet 1 (mBin dAdd (mVar 1) (mLst false (mCons (mTup (mCons (mD (.str "numbers")) (mCons (mIsX tb_BadNumbers (mVar 0)) mNil))) (mCons (mTup (mCons (mD (.str "word")) (mCons (mIsX tb_BadWord (mVar 0)) mNil))) (mCons (mTup (mCons (mD (.str "text")) (mCons (mIsX tb_BadText (mVar 0)) mNil))) mNil)))))) (mSeq (mSet 1 (mBin dAdd (mVar 1) (mLst false (mCons (mTup (mCons (mD (.str "lost")) (mCons (mIsX tb_Lost (mVar 0)) mNil))) (mCons (mTup (mCons (mD (.str "base")) (mCons (mIsX tb_TableError (mVar 0)) mNil))) (mCons (mTup (mCons (mD (.str "error")) (mCons (mIsX tb_Exception (mVar 0)) mNil))) mNil)))))) (mSeq (mSet 1 (mBin dAdd (mVar 1) (mLst false (mCons (mTup (mCons (mD (.str "value")) (mCons (mIsX tb_ValueError (mVar 0)) mNil))) (mCons (mTup (mCons (mD (.str "lookup")) (mCons (mIsX tb_LookupError (mVar 0)) mNil))) mNil))))) mSkip))))) [some (.x a "BadRow" "thing" v), none, none, none] [] = .nx [some (.x a "BadRow" "thing" v), some (.d (.list [.tuple [.str "table", .bool false], .tuple [.str "other", .bool false], .tuple [.str "row", .bool true], .tuple [.str "number", .bool false], .tuple [.str "poly", .bool false], .tuple [.str "prime", .bool false], .tuple [.str "numbers", .bool false], .tuple [.str "word", .bool false], .tuple [.str "text", .bool false], .tuple [.str "lost", .bool false], .tuple [.str "base", .bool true], .tuple [.str "error", .bool true], .tuple [.str "value", .bool false], .tuple [.str "lookup", .bool false]])), none, none] [] := by kernel_rfl
theorem clsH_BadRow_b (a : Addr) (v : PyData) : (mLcH a 0 false (([("word", 2), ("it", 3)] : List (Str × Nat)).map (·.2)) (mVar 1) (gTH a 0 2 (gCons' (gN 2) (gCons' (gN 3) gNil'))) (mTest (mVar 3)) (mVar 2)) [some (.x a "BadRow" "thing" v), some (.d (.list [.tuple [.str "table", .bool false], .tuple [.str "other", .bool false], .tuple [.str "row", .bool true], .tuple [.str "number", .bool false], .tuple [.str "poly", .bool false], .tuple [.str "prime", .bool false], .tuple [.str "numbers", .bool false], .tuple [.str "word", .bool false], .tuple [.str "text", .bool false], .tuple [.str "lost", .bool false], .tuple [.str "base", .bool true], .tuple [.str "error", .bool true], .tuple [.str "value", .bool false], .tuple [.str "lookup", .bool false]])), none, none] [] = .ok (.d (.list [.str "row", .str "base", .str "error"])) [] := (mLcH_eq (xs := [.tuple [.str "table", .bool false], .tuple [.str "other", .bool false], .tuple [.str "row", .bool true], .tuple [.str "number", .bool false], .tuple [.str "poly", .bool false], .tuple [.str "prime", .bool false], .tuple [.str "numbers", .bool false], .tuple [.str "word", .bool false], .tuple [.str "text", .bool false], .tuple [.str "lost", .bool false], .tuple [.str "base", .bool true], .tuple [.str "error", .bool true], .tuple [.str "value", .bool false], .tuple [.str "lookup", .bool false]]) (st1 := []) (by rfl) (by rfl) (by rfl)).trans (by kernel_rfl)
theorem cls_BadTable_a (v : PyData) : (mSeq (mSet 1 (mLst false (mCons (mTup (mCons (mD (.str "table")) (mCons (mIsX tb_BadTable (mVar 0)) mNil))) (mCons (mTup (mCons (mD (.str "other")) (mCons (mIsX tb_OtherTable (mVar 0)) mNil))) (mCons (mTup (mCons (mD (.str "row")) (mCons (mIsX tb_BadRow (mVar 0)) mNil))) mNil))))) (mSeq (mSet 1 (mBin dAdd (mVar 1) (mLst false (mCons (mTup (mCons (mD (.str "number")) (mCons (mIsX tb_BadNumber (mVar 0)) mNil))) (mCons (mTup (mCons (mD (.str "poly")) (mCons (mIsX tb_BadPoly (mVar 0)) mNil))) (mCons (mTup (mCons (mD (.str "prime")) (mCons (mIsX tb_BadPrime (mVar 0)) mNil))) mNil)))))) (mSeq (mSet 1 (mBin dAdd (mVar 1) (mLst false (mCons (mTup (mCons (mD (.str "numbers")) (mCons (mIsX tb_BadNumbers (mVar 0)) mNil))) (mCons (mTup (mCons (mD (.str "word")) (mCons (mIsX tb_BadWord (mVar 0)) mNil))) (mCons (mTup (mCons (mD (.str "text")) (mCons (mIsX tb_BadText (mVar 0)) mNil))) mNil)))))) (mSeq (mSet 1 (mBin dAdd (mVar 1) (mLst false (mCons (mTup (mCons (mD (.str "lost")) (mCons (mIsX tb_Lost (mVar 0)) mNil))) (mCons (mTup (mCons (mD (.str "base")) (mCons (mIsX tb_TableError (mVar 0)) mNil))) (mCons (mTup (mCons (mD (.str "error")) (mCons (mIsX tb_Exception (mVar 0)) mNil))) mNil)))))) (mSeq (mSet 1 (mBin dAdd (mVar 1) (mLst false (mCons (mTup (mCons (mD (.str "value")) (mCons (mIsX tb_ValueError (mVar 0)) mNil))) (mCons (mTup (mCons (mD (.str "lookup")) (mCons (mIsX tb_LookupError (mVar 0)) mNil))) mNil))))) mSkip))))) [some (.e "BadTable" "thing" v), none, none, none] [] = .nx [some (.e "BadTable" "thing" v), some (.d (.list [.tuple [.str "table", .bool true], .tuple [.str "other", .bool false], .tuple [.str "row", .bool false], .tuple [.str "number", .bool false], .tuple [.str "poly", .bool false], .tuple [.str "prime", .bool false], .tuple [.str "numbers", .bool false], .tuple [.str "word", .bool false], .tuple [.str "text", .bool false], .tuple [.str "lost", .bool false], .tuple [.str "base", .bool true], .tuple [.str "error", .bool true], .tuple [.str "value", .bool false], .tuple [.str "lookup", .bool false]])), none, none] [] := by kernel_rfl
theorem cls_BadTable_b (v : PyData) : (mLc false (([("word", 2), ("it", 3)] : List (Str × Nat)).map (·.2)) (mIt (mVar 1)) (gT 2 (gCons' (gN 2) (gCons' (gN 3) gNil'))) (mTest (mVar 3)) (mVar 2)) [some (.e "BadTable" "thing" v), some (.d (.list [.tuple [.str "table", .bool true], .tuple [.str "other", .bool false], .tuple [.str "row", .bool false], .tuple [.str "number", .bool false], .tuple [.str "poly", .bool false], .tuple [.str "prime", .bool false], .tuple [.str "numbers", .bool false], .tuple [.str "word", .bool false], .tuple [.str "text", .bool false], .tuple [.str "lost", .bool false], .tuple [.str "base", .bool true], .tuple [.str "error", .bool true], .tuple [.str "value", .bool false], .tuple [.str "lookup", .bool false]])), none, none] [] = .ok (.d (.list [.str "table", .str "base", .str "error"])) [] := (mLc_eq (us := ([.tuple [.str "table", .bool true], .tuple [.str "other", .bool false], .tuple [.str "row", .bool false], .tuple [.str "number", .bool false], .tuple [.str "poly", .bool false], .tuple [.str "prime", .bool false], .tuple [.str "numbers", .bool false], .tuple [.str "word", .bool false], .tuple [.str "text", .bool false], .tuple [.str "lost", .bool false], .tuple [.str "base", .bool true], .tuple [.str "error", .bool true], .tuple [.str "value", .bool false], .tuple [.str "lookup", .bool false]] : List PyData).map .d) (st1 := []) (by rfl)).trans (by kernel_rfl)
theorem clsH_BadTable_a (a : Addr) (v : PyData) : (mSeq (mSet 1 (mLst false (mCons (mTup (mCons (mD (.str "table")) (mCons (mIsX tb_BadTable (mVar 0)) mNil))) (mCons (mTup (mCons (mD (.str "other")) (mCons (mIsX tb_OtherTable (mVar 0)) mNil))) (mCons (mTup (mCons (mD (.str "row")) (mCons (mIsX tb_BadRow (mVar 0)) mNil))) mNil))))) (mSeq (mSet 1 (mBin dAdd (mVar 1) (mLst false (mCons (mTup (mCons (mD (.str "number")) (mCons (mIsX tb_BadNumber (mVar 0)) mNil))) (mCons (mTup (mCons (mD (.str "poly")) (mCons (mIsX tb_BadPoly (mVar 0)) mNil))) (mCons (mTup (mCons (mD (.str "prime")) (mCons (mIsX tb_BadPrime (mVar 0)) mNil))) mNil)))))) (mSeq (mSet 1 (mBin dAdd (mVar 1) (mLst false (mCons (mTup (mCons (mD (.str "numbers")) (mCons (mIsX tb_BadNumbers (mVar 0)) mNil))) (mCons (mTup (mCons (mD (.str "word")) (mCons (mIsX tb_BadWord (mVar 0)) mNil))) (mCons (mTup (mCons (mD (.str "text")) (mCons (mIsX tb_BadText (mVar 0)) mNil))) mNil)))))) (mSeq (mSet 1 (mBin dAdd (mVar 1) (mLst false (mCons (mTup (mCons (mD (.str "lost")) (mCons (mIsX tb_Lost (mVar 0)) mNil))) (mCons (mTup (mCons (mD (.str "base")) (mCons (mIsX tb_TableError (mVar 0)) mNil))) (mCons (mTup (mCons (mD (.str "error")) (mCons (mIsX tb_Exception (mVar 0)) mNil))) mNil)))))) (mSeq (mSet 1 (mBin dAdd (mVar 1) (mLst false (mCons (mTup (mCons (mD (.str "value")) (mCons (mIsX tb_ValueError (mVar 0)) mNil))) (mCons (mTup (mCons (mD (.str "lookup")) (mCons (mIsX tb_LookupError (mVar 0)) mNil))) mNil))))) mSkip))))) [some (.x a "BadTable" "thing" v), none, none, none] [] = .nx [some (.x a "BadTable" "thing" v), some (.d (.list [.tuple [.str "table", .bool true], .tuple [.str "other", .bool false], .tuple [.str "row", .bool false], .tuple [.str "number", .bool false], .tuple [.str "poly", .bool false], .tuple [.str "prime", .bool false], .tuple [.str "numbers", .bool false], .tuple [.str "word", .bool false], .tuple [.str "text", .bool false], .tuple [.str "lost", .bool false], .tuple [.str "base", .bool true], .tuple [.str "error", .bool true], .tuple [.str "value", .bool false], .tuple [.str "lookup", .bool false]])), none, none] [] := by kernel_rfl
theorem clsH_BadTable_b (a : Addr) (v : PyData) : (mLcH a 0 false (([("word", 2), ("it", 3)] : List (Str × Nat)).map (·.2)) (mVar 1) (gTH a 0 2 (gCons' (gN 2) (gCons' (gN 3) gNil'))) (mTest (mVar 3)) (mVar 2)) [some (.x a "BadTable" "thing" v), some (.d (.list [.tuple [.str "table", .bool true], .tuple [.str "other", .bool false], .tuple [.str "row", .bool false], .tuple [.str "number", .bool false], .tuple [.str "poly", .bool false], .tuple [.str "prime", .bool false], .tuple [.str "numbers", .bool false], .tuple [.str "word", .bool false], .tuple [.str "text", .bool false], .tuple [.str "lost", .bool false], .tuple [.str "base", .bool true], .tuple [.str "error", .bool true], .tuple [.str "value", .bool false], .tuple [.str "lookup", .bool false]])), none, none] [] = .ok (.d (.list [.str "table", .str "base", .str "error"])) [] := (mLcH_eq (xs := [.tuple [.str "table", .bool true], .tuple [.str "other", .bool false], .tuple [.str "row", .bool false], .tuple [.str "number", .bool false], .tuple [.str "poly", .bool false], .tuple [.str "prime", .bool false], .tuple [.str "numbers", .bool false], .tuple [.str "word", .bool false], .tuple [.str "text", .bool false], .tuple [.str "lost", .bool false], .tuple [.str "base", .bool true], .tuple [.str "error", .bool true], .tuple [.str "value", .bool false], .tuple [.str "lookup", .bool false]]) (st1 := []) (by rfl) (by rfl) (by rfl)).trans (by kernel_rfl)
theorem cls_BadText_a (v : PyData) : (mSeq (mSet 1 (mLst false (mCons (mTup (mCons (mD (.str "table")) (mCons (mIsX tb_BadTable (mVar 0)) mNil))) (mCons (mTup (mCons (mD (.str "other")) (mCons (mIsX tb_OtherTable (mVar 0)) mNil))) (mCons (mTup (mCons (mD (.str "row")) (mCons (mIsX tb_BadRow (mVar 0)) mNil))) mNil))))) (mSeq (mSet 1 (mBin dAdd (mVar 1) (mLst false (mCons (mTup (mCons (mD (.str "number")) (mCons (mIsX tb_BadNumber (mVar 0)) mNil))) (mCons (mTup (mCons (mD (.str "poly")) (mCons (mIsX tb_BadPoly (mVar 0)) mNil))) (mCons (mTup (mCons (mD (.str "prime")) (mCons (mIsX tb_BadPrime (mVar 0)) mNil))) mNil)))))) (mSeq (mSet 1 (mBin dAdd (mVar 1) (mLst false (mCons (mTup (mCons (mD (.str "numbers")) (mCons (mIsX tb_BadNumbers (mVar 0)) mNil))) (mCons (mTup (mCons (mD (.str "word")) (mCons (mIsX tb_BadWord (mVar 0)) mNil))) (mCons (mTup (mCons (mD (.str "text")) (mCons (mIsX tb_BadText (mVar 0)) mNil))) mNil)))))) (mSeq (mSet 1 (mBin dAdd (mVar 1) (mLst false (mCons (mTup (mCons (mD (.str "lost")) (mCons (mIsX tb_Lost (mVar 0)) mNil))) (mCons (mTup (mCons (mD (.str "base")) (mCons (mIsX tb_TableError (mVar 0)) mNil))) (mCons (mTup (mCons (mD (.str "error")) (mCons (mIsX tb_Exception (mVar 0)) mNil))) mNil)))))) (mSeq (mSet 1 (mBin dAdd (mVar 1) (mLst false (mCons (mTup (mCons (mD (.str "value")) (mCons (mIsX tb_ValueError (mVar 0)) mNil))) (mCons (mTup (mCons (mD (.str "lookup")) (mCons (mIsX tb_LookupError (mVar 0)) mNil))) mNil))))) mSkip))))) [some (.e "BadText" "at" v), none, none, none] [] = .nx [some (.e "BadText" "at" v), some (.d (.list [.tuple [.str "table", .bool false], .tuple [.str "other", .bool false], .tuple [.str "row", .bool false], .tuple [.str "number", .bool false], .tuple [.str "poly", .bool false], .tuple [.str "prime", .bool false], .tuple [.str "numbers", .bool false], .tuple [.str "word", .bool false], .tuple [.str "text", .bool true], .tuple [.str "lost", .bool false], .tuple [.str "base", .bool true], .tuple [.str "error", .bool true], .tuple [.str "value", .bool false], .tuple [.str "lookup", .bool false]])), none, none] [] := by kernel_rfl
theorem cls_BadText_b (v : PyData) : (mLc false (([("word", 2), ("it", 3)] : List (Str × Nat)).map (·.2)) (mIt (mVar 1)) (gT 2 (gCons' (gN 2) (gCons' (gN 3) gNil'))) (mTest (mVar 3)) (mVar 2)) [some (.e "BadText" "at" v), some (.d (.list [.tuple [.str "table", .bool false], .tuple [.str "other", .bool false], .tuple [.str "row", .bool false], .tuple [.str "number", .bool false], .tuple [.str "poly", .bool false], .tuple [.str "prime", .bool false], .tuple [.str "numbers", .bool false], .tuple [.str "word", .bool false], .tuple [.str "text", .bool true], .tuple [.str "lost", .bool false], .tuple [.str "base", .bool true], .tuple [.str "error", .bool true], .tuple [.str "value", .bool false], .tuple [.str "lookup", .bool false]])), none, none] [] = .ok (.d (.list [.str "text", .str "base", .str "error"])) [] := (mLc_eq (us := ([.tuple [.str "table", .bool false], .tuple [.str "other", .bool false], .tuple [.str "row", .bool false], .tuple [.str "number", .bool false], .tuple [.str "poly", .bool false], .tuple [.str "prime", .bool false], .tuple [.str "numbers", .bool false], .tuple [.str "word", .bool false], .tuple [.str "text", .bool true], .tuple [.str "lost", .bool false], .tuple [.str "base", .bool true], .tuple [.str "error", .bool true], .tuple [.str "value", .bool false], .tuple [.str "lookup", .bool false]] : List PyData).map .d) (st1 := []) (by rfl)).trans (by kernel_rfl)
theorem clsH_BadText_a (a : Addr) (v : PyData) : (mSeq (mSet 1 (mLst false (mCons (mTup (mCons (mD (.str "table")) (mCons (mIsX tb_BadTable (mVar 0)) mNil))) (mCons (mTup (mCons (mD (.str "other")) (mCons (mIsX tb_OtherTable (mVar 0)) mNil))) (mCons (mTup (mCons (mD (.str "row")) (mCons (mIsX tb_BadRow (mVar 0)) mNil))) mNil))))) (mSeq (mSet 1 (mBin dAdd (mVar 1) (mLst false (mCons (mTup (mCons (mD (.str "number")) (mCons (mIsX tb_BadNumber (mVar 0)) mNil))) (mCons (mTup (mCons (mD (.str "poly")) (mCons (mIsX tb_BadPoly (mVar 0)) mNil))) (mCons (mTup (mCons (mD (.str "prime")) (mCons (mIsX tb_BadPrime (mVar 0)) mNil))) mNil)))))) (mSeq (mSet 1 (mBin dAdd (mVar 1) (mLst false (mCons (mTup (mCons (mD (.str "numbers")) (mCons (mIsX tb_BadNumbers (mVar 0)) mNil))) (mCons (mTup (mCons (mD (.str "word")) (mCons (mIsX tb_BadWord (mVar 0)) mNil))) (mCons (mTup (mCons (mD (.str "text")) (mCons (mIsX tb_BadText (mVar 0)) mNil))) mNil)))))) (mSeq (mSet 1 (mBin dAdd (mVar 1) (mLst false (mCons (mTup (mCons (mD (.str "lost")) (mCons (mIsX tb_Lost (mVar 0)) mNil))) (mCons (mTup (mCons (mD (.str "base")) (mCons (mIsX tb_TableError (mVar 0)) mNil))) (mCons (mTup (mCons (mD (.str "error")) (mCons (mIsX tb_Exception (mVar 0)) mNil))) mNil)))))) (mSeq (mSet 1 (mBin dAdd (mVar 1) (mLst false (mCons (mTup (mCons (mD (.str "value")) (mCons (mIsX tb_ValueError (mVar 0)) mNil))) (mCons (mTup (mCons (mD (.str "lookup")) (mCons (mIsX tb_LookupError (mVar 0)) mNil))) mNil))))) mSkip))))) [some (.x a "BadText" "at" v), none, none, none] [] = .nx [some (.x a "BadText" "at" v), some (.d (.list [.tuple [.str "table", .bool false], .tuple [.str "other", .bool false], .tuple [.str "row", .bool false], .tuple [.str "number", .bool false], .tuple [.str "poly", .bool false], .tuple [.str "prime", .bool false], .tuple [.str "numbers", .bool false], .tuple [.str "word", .bool false], .tuple [.str "text", .bool true], .tuple [.str "lost", .bool false], .tuple [.str "base", .bool true], .tuple [.str "error", .bool true], .tuple [.str "value", .bool false], .tuple [.str "lookup", .bool false]])), none, none] [] := by kernel_rfl
theorem clsH_BadText_b (a : Addr) (v : PyData) : (mLcH a 0 false (([("word", 2), ("it", 3)] : List (Str × Nat)).map (·.2)) (mVar 1) (gTH a 0 2 (gCons' (gN 2) (gCons' (gN 3) gNil'))) (mTest (mVar 3)) (mVar 2)) [some (.x a "BadText" "at" v), some (.d (.list [.tuple [.str "table", .bool false], .tuple [.str "other", .bool false], .tuple [.str "row", .bool false], .tuple [.str "number", .bool false], .tuple [.str "poly", .bool false], .tuple [.str "prime", .bool false], .tuple [.str "numbers", .bool false], .tuple [.str "word", .bool false], .tuple [.str "text", .bool true], .tuple [.str "lost", .bool false], .tuple [.str "base", .bool true], .tuple [.str "error", .bool true], .tuple [.str "value", .bool false], .tuple [.str "lookup", .bool false]])), none, none] [] = .ok (.d (.list [.str "text", .str "base", .str "error"])) [] := (mLcH_eq (xs := [.tuple [.str "table", .bool false], .tuple [.str "other", .bool false], .tuple [.str "row", .bool false], .tuple [.str "number", .bool false], .tuple [.str "poly", .bool false], .tuple [.str "prime", .bool false], .tuple [.str "numbers", .bool false], .tuple [.str "word", .bool false], .tuple [.str "text", .bool true], .tuple [.str "lost", .bool false], .tuple [.str "base", .bool true], .tuple [.str "error", .bool true], .tuple [.str "value", .bool false], .tuple [.str "lookup", .bool false]]) (st1 := []) (by rfl) (by rfl) (by rfl)).trans (by kernel_rfl)
theorem cls_BadWord_a (v : PyData) : (mSeq (mSet 1 (mLst false (mCons (mTup (mCons (mD (.str "table")) (mCons (mIsX tb_BadTable (mVar 0)) mNil))) (mCons (mTup (mCons (mD (.str "other")) (mCons (mIsX tb_OtherTable (mVar 0)) mNil))) (mCons (mTup (mCons (mD (.str "row")) (mCons (mIsX tb_BadRow (mVar 0)) mNil))) mNil))))) (mSeq (mSet 1 (mBin dAdd (mVar 1) (mLst false (mCons (mTup (mCons (mD (.str "number")) (mCons (mIsX tb_BadNumber (mVar 0)) mNil))) (mCons (mTup (mCons (mD (.str "poly")) (mCons (mIsX tb_BadPoly (mVar 0)) mNil))) (mCons (mTup (mCons (mD (.str "prime")) (mCons (mIsX tb_BadPrime (mVar 0)) mNil))) mNil)))))) (mSeq (mSet 1 (mBin dAdd (mVar 1) (mLst false (mCons (mTup (mCons (mD (.str "numbers")) (mCons (mIsX tb_BadNumbers (mVar 0)) mNil))) (mCons (mTup (mCons (mD (.str "word")) (mCons (mIsX tb_BadWord (mVar 0)) mNil))) (mCons (mTup (mCons (mD (.str "text")) (mCons (mIsX tb_BadText (mVar 0)) mNil))) mNil)))))) (mSeq (mSet 1 (mBin dAdd (mVar 1) (mLst false (mCons (mTup (mCons (mD (.str "lost")) (mCons (mIsX tb_Lost (mVar 0)) mNil))) (mCons (mTup (mCons (mD (.str "base")) (mCons (mIsX tb_TableError (mVar 0)) mNil))) (mCons (mTup (mCons (mD (.str "error")) (mCons (mIsX tb_Exception (mVar 0)) mNil))) mNil)))))) (mSeq (mSet 1 (mBin dAdd (mVar 1) (mLst false (mCons (mTup (mCons (mD (.str "value")) (mCons (mIsX tb_ValueError (mVar 0)) mNil))) (mCons (mTup (mCons (mD (.str "lookup")) (mCons (mIsX tb_LookupError (mVar 0)) mNil))) mNil))))) mSkip))))) [some (.e "BadWord" "thing" v), none, none, none] [] = .nx [some (.e "BadWord" "thing" v), some (.d (.list [.tuple [.str "table", .bool false], .tuple [.str "other", .bool false], .tuple [.str "row", .bool false], .tuple [.str "number", .bool false], .tuple [.str "poly", .bool false], .tuple [.str "prime", .bool false], .tuple [.str "numbers", .bool false], .tuple [.str "word", .bool true], .tuple [.str "text", .bool false], .tuple [.str "lost", .bool false], .tuple [.str "base", .bool true], .tuple [.str "error", .bool true], .tuple [.str "value", .bool false], .tuple [.str "lookup", .bool false]])), none, none] [] := by kernel_rfl
theorem cls_BadWord_b (v : PyData) : (mLc false (([("word", 2), ("it", 3)] : List (Str × Nat)).map (·.2)) (mIt (mVar 1)) (gT 2 (gCons' (gN 2) (gCons' (gN 3) gNil'))) (mTest (mVar 3)) (mVar 2)) [some (.e "BadWord" "thing" v), some (.d (.list [.tuple [.str "table", .bool false], .tuple [.str "other", .bool false], .tuple [.str "row", .bool false], .tuple [.str "number", .bool false], .tuple [.str "poly", .bool false], .tuple [.str "prime", .bool false], .tuple [.str "numbers", .bool false], .tuple [.str "word", .bool true], .tuple [.str "text", .bool false], .tuple [.str "lost", .bool false], .tuple [.str "base", .bool true], .tuple [.str "error", .bool true], .tuple [.str "value", .bool false], .tuple [.str "lookup", .bool false]])), none, none] [] = .ok (.d (.list [.str "word", .str "base", .str "error"])) [] := (mLc_eq (us := ([.tuple [.str "table", .bool false], .tuple [.str "other", .bool false], .tuple [.str "row", .bool false], .tuple [.str "number", .bool false], .tuple [.str "poly", .bool false], .tuple [.str "prime", .bool false], .tuple [.str "numbers", .bool false], .tuple [.str "word", .bool true], .tuple [.str "text", .bool false], .tuple [.str "lost", .bool false], .tuple [.str "base", .bool true], .tuple [.str "error", .bool true], .tuple [.str "value", .bool false], .tuple [.str "lookup", .bool false]] : List PyData).map .d) (st1 := []) (by rfl)).trans (by kernel_rfl)
theorem clsH_BadWord_a (a : Addr) (v : PyData) : (mSeq (mSet 1 (mLst false (mCons (mTup (mCons (mD (.str "table")) (mCons (mIsX tb_BadTable (mVar 0)) mNil))) (mCons (mTup (mCons (mD (.str "other")) (mCons (mIsX tb_OtherTable (mVar 0)) mNil))) (mCons (mTup (mCons (mD (.str "row")) (mCons (mIsX tb_BadRow (mVar 0)) mNil))) mNil))))) (mSeq (mSet 1 (mBin dAdd (mVar 1) (mLst false (mCons (mTup (mCons (mD (.str "number")) (mCons (mIsX tb_BadNumber (mVar 0)) mNil))) (mCons (mTup (mCons (mD (.str "poly")) (mCons (mIsX tb_BadPoly (mVar 0)) mNil))) (mCons (mTup (mCons (mD (.str "prime")) (mCons (mIsX tb_BadPrime (mVar 0)) mNil))) mNil)))))) (mSeq (mSet 1 (mBin dAdd (mVar 1) (mLst false (mCons (mTup (mCons (mD (.str "numbers")) (mCons (mIsX tb_BadNumbers (mVar 0)) mNil))) (mCons (mTup (mCons (mD (.str "word")) (mCons (mIsX tb_BadWord (mVar 0)) mNil))) (mCons (mTup (mCons (mD (.str "text")) (mCons (mIsX tb_BadText (mVar 0)) mNil))) mNil)))))) (mSeq (mSet 1 (mBin dAdd (mVar 1) (mLst false (mCons (mTup (mCons (mD (.str "lost")) (mCons (mIsX tb_Lost (mVar 0)) mNil))) (mCons (mTup (mCons (mD (.str "base")) (mCons (mIsX tb_TableError (mVar 0)) mNil))) (mCons (mTup (mCons (mD (.str "error")) (mCons (mIsX tb_Exception (mVar 0)) mNil))) mNil)))))) (mSeq (mSet 1 (mBin dAdd (mVar 1) (mLst false (mCons (mTup (mCons (mD (.str "value")) (mCons (mIsX tb_ValueError (mVar 0)) mNil))) (mCons (mTup (mCons (mD (.str "lookup")) (mCons (mIsX tb_LookupError (mVar 0)) mNil))) mNil))))) mSkip))))) [some (.x a "BadWord" "thing" v), none, none, none] [] = .nx [some (.x a "BadWord" "thing" v), some (.d (.list [.tuple [.str "table", .bool false], .tuple [.str "other", .bool false], .tuple [.str "row", .bool false], .tuple [.str "number", .bool false], .tuple [.str "poly", .bool false], .tuple [.str "prime", .bool false], .tuple [.str "numbers", .bool false], .tuple [.str "word", .bool true], .tuple [.str "text", .bool false], .tuple [.str "lost", .bool false], .tuple [.str "base", .bool true], .tuple [.str "error", .bool true], .tuple [.str "value", .bool false], .tuple [.str "lookup", .bool false]])), none, none] [] := by kernel_rfl
theorem clsH_BadWord_b (a : Addr) (v : PyData) : (mLcH a 0 false (([("word", 2), ("it", 3)] : List (Str × Nat)).map (·.2)) (mVar 1) (gTH a 0 2 (gCons' (gN 2) (gCons' (gN 3) gNil'))) (mTest (mVar 3)) (mVar 2)) [some (.x a "BadWord" "thing" v), some (.d (.list [.tuple [.str "table", .bool false], .tuple [.str "other", .bool false], .tuple [.str "row", .bool false], .tuple [.str "number", .bool false], .tuple [.str "poly", .bool false], .tuple [.str "prime", .bool false], .tuple [.str "numbers", .bool false], .tuple [.str "word", .bool true], .tuple [.str "text", .bool false], .tuple [.str "lost", .bool false], .tuple [.str "base", .bool true], .tuple [.str "error", .bool true], .tuple [.str "value", .bool false], .tuple [.str "lookup", .bool false]])), none, none] [] = .ok (.d (.list [.str "word", .str "base", .str "error"])) [] := (mLcH_eq (xs := [.tuple [.str "table", .bool false], .tuple [.str "other", .bool false], .tuple [.str "row", .bool false], .tuple [.str "number", .bool false], .tuple [.str "poly", .bool false], .tuple [.str "prime", .bool false], .tuple [.str "numbers", .bool false], .tuple [.str "word", .bool true], .tuple [.str "text", .bool false], .tuple [.str "lost", .bool false], .tuple [.str "base", .bool true], .tuple [.str "error", .bool true], .tuple [.str "value", .bool false], .tuple [.str "lookup", .bool false]]) (st1 := []) (by rfl) (by rfl) (by rfl)).trans (by kernel_rfl)
theorem cls_Lost_a (v : PyData) : (mSeq (mSet 1 (mLst false (mCons (mTup (mCons (mD (.str "table")) (mCons (mIsX tb_BadTable (mVar 0)) mNil))) (mCons (mTup (mCons (mD (.str "other")) (mCons (mIsX tb_OtherTable (mVar 0)) mNil))) (mCons (mTup (mCons (mD (.str "row")) (mCons (mIsX tb_BadRow (mVar 0)) mNil))) mNil))))) (mSeq (mSet 1 (mBin dAdd (mVar 1) (mLst false (mCons (mTup (mCons (mD (.str "number")) (mCons (mIsX tb_BadNumber (mVar 0)) mNil))) (mCons (mTup (mCons (mD (.str "poly")) (mCons (mIsX tb_BadPoly (mVar 0)) mNil))) (mCons (mTup (mCons (mD (.str "prime")) (mCons (mIsX tb_BadPrime (mVar 0)) mNil))) mNil)))))) (mSeq (mSet 1 (mBin dAdd (mVar 1) (mLst false (mCons (mTup (mCons (mD (.str "numbers")) (mCons (mIsX tb_BadNumbers (mVar 0)) mNil))) (mCons (mTup (mCons (mD (.str "word")) (mCons (mIsX tb_BadWord (mVar 0)) mNil))) (mCons (mTup (mCons (mD (.str "text")) (mCons (mIsX tb_BadText (mVar 0)) mNil))) mNil)))))) (mSeq (mSet 1 (mBin dAdd (mVar 1) (mLst false (mCons (mTup (mCons (mD (.str "lost")) (mCons (mIsX tb_Lost (mVar 0)) mNil))) (mCons (mTup (mCons (mD (.str "base")) (mCons (mIsX tb_TableError (mVar 0)) mNil))) (mCons (mTup (mCons (mD (.str "error")) (mCons (mIsX tb_Exception (mVar 0)) mNil))) mNil)))))) (mSeq (mSet 1 (mBin dAdd (mVar 1) (mLst false (mCons (mTup (mCons (mD (.str "value")) (mCons (mIsX tb_ValueError (mVar 0)) mNil))) (mCons (mTup (mCons (mD (.str "lookup")) (mCons (mIsX tb_LookupError (mVar 0)) mNil))) mNil))))) mSkip))))) [some (.e "Lost" "row" v), none, none, none] [] = .nx [some (.e "Lost" "row" v), some (.d (.list [.tuple [.str "table", .bool false], .tuple [.str "other", .bool false], .tuple [.str "row", .bool false], .tuple [.str "number", .bool false], .tuple [.str "poly", .bool false], .tuple [.str "prime", .bool false], .tuple [.str "numbers", .bool false], .tuple [.str "word", .bool false], .tuple [.str "text", .bool false], .tuple [.str "lost", .bool true], .tuple [.str "base", .bool true], .tuple [.str "error", .bool true], .tuple [.str "value", .bool false], .tuple [.str "lookup", .bool false]])), none, none] [] := by kernel_rfl
theorem cls_Lost_b (v : PyData) : (mLc false (([("word", 2), ("it", 3)] : List (Str × Nat)).map (·.2)) (mIt (mVar 1)) (gT 2 (gCons' (gN 2) (gCons' (gN 3) gNil'))) (mTest (mVar 3)) (mVar 2)) [some (.e "Lost" "row" v), some (.d (.list [.tuple [.str "table", .bool false], .tuple [.str "other", .bool false], .tuple [.str "row", .bool false], .tuple [.str "number", .bool false], .tuple [.str "poly", .bool false], .tuple [.str "prime", .bool false], .tuple [.str "numbers", .bool false], .tuple [.str "word", .bool false], .tuple [.str "text", .bool false], .tuple [.str "lost", .bool true], .tuple [.str "base", .bool true], .tuple [.str "error", .bool true], .tuple [.str "value", .bool false], .tuple [.str "lookup", .bool false]])), none, none] [] = .ok (.d (.list [.str "lost", .str "base", .str "error"])) [] := (mLc_eq (us := ([.tuple [.str "table", .bool false], .tuple [.str "other", .bool false], .tuple [.str "row", .bool false], .tuple [.str "number", .bool false], .tuple [.str "poly", .bool false], .tuple [.str "prime", .bool false], .tuple [.str "numbers", .bool false], .tuple [.str "word", .bool false], .tuple [.str "text", .bool false], .tuple [.str "lost", .bool true], .tuple [.str "base", .bool true], .tuple [.str "error", .bool true], .tuple [.str "value", .bool false], .tuple [.str "lookup", .bool false]] : List PyData).map .d) (st1 := []) (by rfl)).trans (by kernel_rfl)
theorem clsH_Lost_a (a : Addr) (v : PyData) : (mSeq (mSet 1 (mLst false (mCons (mTup (mCons (mD (.str "table")) (mCons (mIsX tb_BadTable (mVar 0)) mNil))) (mCons (mTup (mCons (mD (.str "other")) (mCons (mIsX tb_OtherTable (mVar 0)) mNil))) (mCons (mTup (mCons (mD (.str "row")) (mCons (mIsX tb_BadRow (mVar 0)) mNil))) mNil))))) (mSeq (mSet 1 (mBin dAdd (mVar 1) (mLst false (mCons (mTup (mCons (mD (.str "number")) (mCons (mIsX tb_BadNumber (mVar 0)) mNil))) (mCons (mTup (mCons (mD (.str "poly")) (mCons (mIsX tb_BadPoly (mVar 0)) mNil))) (mCons (mTup (mCons (mD (.str "prime")) (mCons (mIsX tb_BadPrime (mVar 0)) mNil))) mNil)))))) (mSeq (mSet 1 (mBin dAdd (mVar 1) (mLst false (mCons (mTup (mCons (mD (.str "numbers")) (mCons (mIsX tb_BadNumbers (mVar 0)) mNil))) (mCons (mTup (mCons (mD (.str "word")) (mCons (mIsX tb_BadWord (mVar 0)) mNil))) (mCons (mTup (mCons (mD (.str "text")) (mCons (mIsX tb_BadText (mVar 0)) mNil))) mNil)))))) (mSeq (mSet 1 (mBin dAdd (mVar 1) (mLst false (mCons (mTup (mCons (mD (.str "lost")) (mCons (mIsX tb_Lost (mVar 0)) mNil))) (mCons (mTup (mCons (mD (.str "base")) (mCons (mIsX tb_TableError (mVar 0)) mNil))) (mCons (mTup (mCons (mD (.str "error")) (mCons (mIsX tb_Exception (mVar 0)) mNil))) mNil)))))) (mSeq (mSet 1 (mBin dAdd (mVar 1) (mLst false (mCons (mTup (mCons (mD (.str "value")) (mCons (mIsX tb_ValueError (mVar 0)) mNil))) (mCons (mTup (mCons (mD (.str "lookup")) (mCons (mIsX tb_LookupError (mVar 0)) mNil))) mNil))))) mSkip))))) [some (.x a "Lost" "row" v), none, none, none] [] = .nx [some (.x a "Lost" "row" v), some (.d (.list [.tuple [.str "table", .bool false], .tuple [.str "other", .bool false], .tuple [.str "row", .bool false], .tuple [.str "number", .bool false], .tuple [.str "poly", .bool false], .tuple [.str "prime", .bool false], .tuple [.str "numbers", .bool false], .tuple [.str "word", .bool false], .tuple [.str "text", .bool false], .tuple [.str "lost", .bool true], .tuple [.str "base", .bool true], .tuple [.str "error", .bool true], .tuple [.str "value", .bool false], .tuple [.str "lookup", .bool false]])), none, none] [] := by kernel_rfl
theorem clsH_Lost_b (a : Addr) (v : PyData) : (mLcH a 0 false (([("word", 2), ("it", 3)] : List (Str × Nat)).map (·.2)) (mVar 1) (gTH a 0 2 (gCons' (gN 2) (gCons' (gN 3) gNil'))) (mTest (mVar 3)) (mVar 2)) [some (.x a "Lost" "row" v), some (.d (.list [.tuple [.str "table", .bool false], .tuple [.str "other", .bool false], .tuple [.str "row", .bool false], .tuple [.str "number", .bool false], .tuple [.str "poly", .bool false], .tuple [.str "prime", .bool false], .tuple [.str "numbers", .bool false], .tuple [.str "word", .bool false], .tuple [.str "text", .bool false], .tuple [.str "lost", .bool true], .tuple [.str "base", .bool true], .tuple [.str "error", .bool true], .tuple [.str "value", .bool false], .tuple [.str "lookup", .bool false]])), none, none] [] = .ok (.d (.list [.str "lost", .str "base", .str "error"])) [] := (mLcH_eq (xs := [.tuple [.str "table", .bool false], .tuple [.str "other", .bool false], .tuple [.str "row", .bool false], .tuple [.str "number", .bool false], .tuple [.str "poly", .bool false], .tuple [.str "prime", .bool false], .tuple [.str "numbers", .bool false], .tuple [.str "word", .bool false], .tuple [.str "text", .bool false], .tuple [.str "lost", .bool true], .tuple [.str "base", .bool true], .tuple [.str "error", .bool true], .tuple [.str "value", .bool false], .tuple [.str "lookup", .bool false]]) (st1 := []) (by rfl) (by rfl) (by rfl)).trans (by kernel_rfl)
theorem cls_OtherTable_a (v : PyData) : (mSeq (mSet 1 (mLst false (mCons (mTup (mCons (mD (.str "table")) (mCons (mIsX tb_BadTable (mVar 0)) mNil))) (mCons (mTup (mCons (mD (.str "other")) (mCons (mIsX tb_OtherTable (mVar 0)) mNil))) (mCons (mTup (mCons (mD (.str "row")) (mCons (mIsX tb_BadRow (mVar 0)) mNil))) mNil))))) (mSeq (mSet 1 (mBin dAdd (mVar 1) (mLst false (mCons (mTup (mCons (mD (.str "number")) (mCons (mIsX tb_BadNumber (mVar 0)) mNil))) (mCons (mTup (mCons (mD (.str "poly")) (mCons (mIsX tb_BadPoly (mVar 0)) mNil))) (mCons (mTup (mCons (mD (.str "prime")) (mCons (mIsX tb_BadPrime (mVar 0)) mNil))) mNil)))))) (mSeq (mSet 1 (mBin dAdd (mVar 1) (mLst false (mCons (mTup (mCons (mD (.str "numbers")) (mCons (mIsX tb_BadNumbers (mVar 0)) mNil))) (mCons (mTup (mCons (mD (.str "word")) (mCons (mIsX tb_BadWord (mVar 0)) mNil))) (mCons (mTup (mCons (mD (.str "text")) (mCons (mIsX tb_BadText (mVar 0)) mNil))) mNil)))))) (mSeq (mSet 1 (mBin dAdd (mVar 1) (mLst false (mCons (mTup (mCons (mD (.str "lost")) (mCons (mIsX tb_Lost (mVar 0)) mNil))) (mCons (mTup (mCons (mD (.str "base")) (mCons (mIsX tb_TableError (mVar 0)) mNil))) (mCons (mTup (mCons (mD (.str "error")) (mCons (mIsX tb_Exception (mVar 0)) mNil))) mNil)))))) (mSeq (mSet 1 (mBin dAdd (mVar 1) (mLst false (mCons (mTup (mCons (mD (.str "value")) (mCons (mIsX tb_ValueError (mVar 0)) mNil))) (mCons (mTup (mCons (mD (.str "lookup")) (mCons (mIsX tb_LookupError (mVar 0)) mNil))) mNil))))) mSkip))))) [some (.e "OtherTable" "thing" v), none, none, none] [] = .nx [some (.e "OtherTable" "thing" v), some (.d (.list [.tuple [.str "table", .bool false], .tuple [.str "other", .bool true], .tuple [.str "row", .bool false], .tuple [.str "number", .bool false], .tuple [.str "poly", .bool false], .tuple [.str "prime", .bool false], .tuple [.str "numbers", .bool false], .tuple [.str "word", .bool false], .tuple [.str "text", .bool false], .tuple [.str "lost", .bool false], .tuple [.str "base", .bool true], .tuple [.str "error", .bool true], .tuple [.str "value", .bool false], .tuple [.str "lookup", .bool false]])), none, none] [] := by kernel_rfl
theorem cls_OtherTable_b (v : PyData) : (mLc false (([("word", 2), ("it", 3)] : List (Str × Nat)).map (·.2)) (mIt (mVar 1)) (gT 2 (gCons' (gN 2) (gCons' (gN 3) gNil'))) (mTest (mVar 3)) (mVar 2)) [some (.e "OtherTable" "thing" v), some (.d (.list [.tuple [.str "table", .bool false], .tuple [.str "other", .bool true], .tuple [.str "row", .bool false], .tuple [.str "number", .bool false], .tuple [.str "poly", .bool false], .tuple [.str "prime", .bool false], .tuple [.str "numbers", .bool false], .tuple [.str "word", .bool false], .tuple [.str "text", .bool false], .tuple [.str "lost", .bool false], .tuple [.str "base", .bool true], .tuple [.str "error", .bool true], .tuple [.str "value", .bool false], .tuple [.str "lookup", .bool false]])), none, none] [] = .ok (.d (.list [.str "other", .str "base", .str "error"])) [] := (mLc_eq (us := ([.tuple [.str "table", .bool false], .tuple [.str "other", .bool true], .tuple [.str "row", .bool false], .tuple [.str "number", .bool false], .tuple [.str "poly", .bool false], .tuple [.str "prime", .bool false], .tuple [.str "numbers", .bool false], .tuple [.str "word", .bool false], .tuple [.str "text", .bool false], .tuple [.str "lost", .bool false], .tuple [.str "base", .bool true], .tuple [.str "error", .bool true], .tuple [.str "value", .bool false], .tuple [.str "lookup", .bool false]] : List PyData).map .d) (st1 := []) (by rfl)).trans (by kernel_rfl)
theorem clsH_OtherTable_a (a : Addr) (v : PyData) : (mSeq (mSet 1 (mLst false (mCons (mTup (mCons (mD (.str "table")) (mCons (mIsX tb_BadTable (mVar 0)) mNil))) (mCons (mTup (mCons (mD (.str "other")) (mCons (mIsX tb_OtherTable (mVar 0)) mNil))) (mCons (mTup (mCons (mD (.str "row")) (mCons (mIsX tb_BadRow (mVar 0)) mNil))) mNil))))) (mSeq (mSet 1 (mBin dAdd (mVar 1) (mLst false (mCons (mTup (mCons (mD (.str "number")) (mCons (mIsX tb_BadNumber (mVar 0)) mNil))) (mCons (mTup (mCons (mD (.str "poly")) (mCons (mIsX tb_BadPoly (mVar 0)) mNil))) (mCons (mTup (mCons (mD (.str "prime")) (mCons (mIsX tb_BadPrime (mVar 0)) mNil))) mNil)))))) (mSeq (mSet 1 (mBin dAdd (mVar 1) (mLst false (mCons (mTup (mCons (mD (.str "numbers")) (mCons (mIsX tb_BadNumbers (mVar 0)) mNil))) (mCons (mTup (mCons (mD (.str "word")) (mCons (mIsX tb_BadWord (mVar 0)) mNil))) (mCons (mTup (mCons (mD (.str "text")) (mCons (mIsX tb_BadText (mVar 0)) mNil))) mNil)))))) (mSeq (mSet 1 (mBin dAdd (mVar 1) (mLst false (mCons (mTup (mCons (mD (.str "lost")) (mCons (mIsX tb_Lost (mVar 0)) mNil))) (mCons (mTup (mCons (mD (.str "base")) (mCons (mIsX tb_TableError (mVar 0)) mNil))) (mCons (mTup (mCons (mD (.str "error")) (mCons (mIsX tb_Exception (mVar 0)) mNil))) mNil)))))) (mSeq (mSet 1 (mBin dAdd (mVar 1) (mLst false (mCons (mTup (mCons (mD (.str "value")) (mCons (mIsX tb_ValueError (mVar 0)) mNil))) (mCons (mTup (mCons (mD (.str "lookup")) (mCons (mIsX tb_LookupError (mVar 0)) mNil))) mNil))))) mSkip))))) [some (.x a "OtherTable" "thing" v), none, none, none] [] = .nx [some (.x a "OtherTable" "thing" v), some (.d (.list [.tuple [.str "table", .bool false], .tuple [.str "other", .bool true], .tuple [.str "row", .bool false], .tuple [.str "number", .bool false], .tuple [.str "poly", .bool false], .tuple [.str "prime", .bool false], .tuple [.str "numbers", .bool false], .tuple [.str "word", .bool false], .tuple [.str "text", .bool false], .tuple [.str "lost", .bool false], .tuple [.str "base", .bool true], .tuple [.str "error", .bool true], .tuple [.str "value", .bool false], .tuple [.str "lookup", .bool false]])), none, none] [] := by kernel_rfl
theorem clsH_OtherTable_b (a : Addr) (v : PyData) : (mLcH a 0 false (([("word", 2), ("it", 3)] : List (Str × Nat)).map (·.2)) (mVar 1) (gTH a 0 2 (gCons' (gN 2) (gCons' (gN 3) gNil'))) (mTest (mVar 3)) (mVar 2)) [some (.x a "OtherTable" "thing" v), some (.d (.list [.tuple [.str "table", .bool false], .tuple [.str "other", .bool true], .tuple [.str "row", .bool false], .tuple [.str "number", .bool false], .tuple [.str "poly", .bool false], .tuple [.str "prime", .bool false], .tuple [.str "numbers", .bool false], .tuple [.str "word", .bool false], .tuple [.str "text", .bool false], .tuple [.str "lost", .bool false], .tuple [.str "base", .bool true], .tuple [.str "error", .bool true], .tuple [.str "value", .bool false], .tuple [.str "lookup", .bool false]])), none, none] [] = .ok (.d (.list [.str "other", .str "base", .str "error"])) [] := (mLcH_eq (xs := [.tuple [.str "table", .bool false], .tuple [.str "other", .bool true], .tuple [.str "row", .bool false], .tuple [.str "number", .bool false], .tuple [.str "poly", .bool false], .tuple [.str "prime", .bool false], .tuple [.str "numbers", .bool false], .tuple [.str "word", .bool false], .tuple [.str "text", .bool false], .tuple [.str "lost", .bool false], .tuple [.str "base", .bool true], .tuple [.str "error", .bool true], .tuple [.str "value", .bool false], .tuple [.str "lookup", .bool false]]) (st1 := []) (by rfl) (by rfl) (by rfl)).trans (by kernel_rfl)
end G

set_option Elab.async false
set_option linter.all false
set_option maxRecDepth 100000
set_option maxHeartbeats 8000000
namespace G
open PySem PySem.Spec Dd L2
theorem all_app {xs ys : List PyData} {p : PyData → Bool} (h : xs.all p = true) (h2 : ys.all p = true) : (xs ++ ys).all p = true := by rw [List.all_append, h, h2]; rfl
theorem ok_L : ((L1 ++ L2').all okP) = true := all_app ok_L1 ok_L2
theorem ok_A : (LA.all okP) = true := by rw [LA_eq]; exact all_app ok_LAb (all_app ok_LAb ok_LAb)
theorem ok_B : (LB.all okP) = true := by rw [LB_eq]; exact all_app ok_LBb (all_app ok_LBb ok_LBb)
theorem ok_C : (LC.all okP) = true := by rw [LC_eq]; exact all_app ok_LCb ok_LCb
theorem addL (st : Sto) : dAdd (.d (.list L1)) (.d (.list L2')) st = .ok (.d (.list (L1 ++ L2'))) st := by kernel_rfl
theorem odd_of {st : Sto} {b : Int} {it : PyData} {xs : List PyData} (D : DeckAt st b) (hb : b ≤ 99999)
    (h3 : ∀ st2, S3 [some (.r 0), some (.d it), some (.d (.list (L1 ++ L2')))] st2 = .nx [some (.r 0), some (.d it), some (.d (.list xs))] st2) (hm : 0 < xs.length) (hm2 : xs.length ≤ 100000) (hok : xs.all okP = true) :
    ∃ x st', okP x = true ∧ m_law_odd [.r 0, .d it] st = .ok (.d x) st' ∧ DeckAt st' (b + 1) := by
  obtain ⟨x, st', hx, e, D', _⟩ := pick_ok (D.app [.gone] |>.app [.gone]) (xs := xs) (by omega) hm hm2
  refine ⟨x, st', List.all_eq_true.mp hok x hx, ?_, D'⟩
  unfold m_law_odd mFun
  show (match b_law_odd [some (.r 0), some (.d it), none] st with
    | .nx _ st' => EO.ok (U.d .none) st' | .rt u st' => .ok u st' | .ex x _ st' => .ex x st' | _ => .bad) = _
  rw [odd_eq, mSeq, mSet, o1, tok]
  show (match mSeq _ _ [some (.r 0), some (.d it), some (.d (.list L1))] (st ++ [.gone]) with
    | .nx _ st' => EO.ok (U.d .none) st' | .rt u st' => .ok u st' | .ex x _ st' => .ex x st' | _ => .bad) = _
  rw [mSeq, mSet, mBin, mV (i := 2) (env := [some (.r 0), some (.d it), some (.d (.list L1))]) rfl, bok, o2, bok, addL, tok]
  show (match mSeq _ _ [some (.r 0), some (.d it), some (.d (.list (L1 ++ L2')))] (st ++ [.gone] ++ [.gone]) with
    | .nx _ st' => EO.ok (U.d .none) st' | .rt u st' => .ok u st' | .ex x _ st' => .ex x st' | _ => .bad) = _
  rw [mSeq, h3]
  refine Eq.trans ret_fun ?_
  rw [callS (us := [.r 0, .d (.list xs)]) (st' := st ++ [.gone] ++ [.gone])]
  · exact e
  · simp only [mCons, mNil, mV (i := 0) (env := [some (.r 0), some (.d it), some (.d (.list xs))]) rfl, mV (i := 2) (env := [some (.r 0), some (.d it), some (.d (.list xs))]) rfl, bok]
theorem odd_ok {st : Sto} {b : Int} {it : PyData} (D : DeckAt st b) (hb : b ≤ 99999) (h : it ∈ [itA, .int 3, .str "table 2 1", .none]) :
    ∃ x st', okP x = true ∧ m_law_odd [.r 0, .d it] st = .ok (.d x) st' ∧ DeckAt st' (b + 1) := by
  simp only [List.mem_cons, List.mem_nil_iff, or_false] at h
  rcases h with rfl | rfl | rfl | rfl
  · exact odd_of D hb s3A (by decide) (by decide) (all_app ok_L ok_A)
  · exact odd_of D hb s3B (by decide) (by decide) (all_app ok_L ok_B)
  · exact odd_of D hb s3C (by decide) (by decide) (all_app ok_L ok_C)
  · exact odd_of D hb s3D (by decide) (by decide) ok_L
end G

set_option Elab.async false
set_option linter.all false
set_option maxRecDepth 100000
set_option maxHeartbeats 8000000
namespace G
open PySem PySem.Spec Dd L2
def finF (o : SO) : EO U := match o with
  | .nx _ st' => .ok (.d .none) st'
  | .rt u st' => .ok u st'
  | .ex x _ st' => .ex x st'
  | _ => .bad
theorem sq1 {a R : MS} {env e : En} {st s : Sto} (h : mSeq a mSkip env st = .nx e s) : mSeq a R env st = R e s := by
  unfold mSeq at h ⊢
  cases h2 : a env st with
  | nx e2 s2 =>
    rw [h2] at h
    injection h with h3 h4
    subst h3; subst h4; rfl
  | _ => rw [h2] at h; cases h
theorem sqS {a T T' R : MS} {env e : En} {st s : Sto} (H : ∀ {env st}, T env st = .nx e s → T' env st = R e s) (h : mSeq a T env st = .nx e s) : mSeq a T' env st = R e s := by
  unfold mSeq at h ⊢
  cases h2 : a env st with
  | nx e2 s2 =>
    rw [h2] at h
    exact H h
  | _ => rw [h2] at h; cases h
theorem sq5 {a1 a2 a3 a4 a5 R : MS} {env e : En} {st s : Sto} (h : mSeq a1 (mSeq a2 (mSeq a3 (mSeq a4 (mSeq a5 mSkip)))) env st = .nx e s) : mSeq a1 (mSeq a2 (mSeq a3 (mSeq a4 (mSeq a5 R)))) env st = R e s :=
  sqS (sqS (sqS (sqS sq1))) h
theorem seq_nx {a b : MS} {env e : En} {st s : Sto} (h : a env st = .nx e s) : mSeq a b env st = b e s := by
  unfold mSeq; rw [h]
theorem retF {m : ME} {env : En} {st : Sto} : finF (mSeq (mRet m) mSkip env st) = m env st := ret_fun

theorem made_table (v : PyData) (b : Bool) : m_law_made [.d (.str "table"), .d v, .d (.bool b)] [] = .ok (.e "BadTable" "thing" v) [] := by
  cases b <;> kernel_rfl
theorem classes_table (v : PyData) : m_law_classes [.e "BadTable" "thing" v] [] = .ok (.d (.list [.str "table", .str "base", .str "error"])) [] := by
  show finF (b_law_classes [some (.e "BadTable" "thing" v), none, none, none] []) = _
  rw [classes_split, sq5 (cls_BadTable_a v)]
  exact retF.trans (cls_BadTable_b v)
theorem made_other (v : PyData) (b : Bool) : m_law_made [.d (.str "other"), .d v, .d (.bool b)] [] = .ok (.e "OtherTable" "thing" v) [] := by
  cases b <;> kernel_rfl
theorem classes_other (v : PyData) : m_law_classes [.e "OtherTable" "thing" v] [] = .ok (.d (.list [.str "other", .str "base", .str "error"])) [] := by
  show finF (b_law_classes [some (.e "OtherTable" "thing" v), none, none, none] []) = _
  rw [classes_split, sq5 (cls_OtherTable_a v)]
  exact retF.trans (cls_OtherTable_b v)
theorem made_row (v : PyData) (b : Bool) : m_law_made [.d (.str "row"), .d v, .d (.bool b)] [] = .ok (.e "BadRow" "thing" v) [] := by
  cases b <;> kernel_rfl
theorem classes_row (v : PyData) : m_law_classes [.e "BadRow" "thing" v] [] = .ok (.d (.list [.str "row", .str "base", .str "error"])) [] := by
  show finF (b_law_classes [some (.e "BadRow" "thing" v), none, none, none] []) = _
  rw [classes_split, sq5 (cls_BadRow_a v)]
  exact retF.trans (cls_BadRow_b v)
theorem made_number (v : PyData) (b : Bool) : m_law_made [.d (.str "number"), .d v, .d (.bool b)] [] = .ok (.e "BadNumber" "thing" v) [] := by
  cases b <;> kernel_rfl
theorem classes_number (v : PyData) : m_law_classes [.e "BadNumber" "thing" v] [] = .ok (.d (.list [.str "number", .str "base", .str "error"])) [] := by
  show finF (b_law_classes [some (.e "BadNumber" "thing" v), none, none, none] []) = _
  rw [classes_split, sq5 (cls_BadNumber_a v)]
  exact retF.trans (cls_BadNumber_b v)
theorem made_poly (v : PyData) (b : Bool) : m_law_made [.d (.str "poly"), .d v, .d (.bool b)] [] = .ok (.e "BadPoly" "thing" v) [] := by
  cases b <;> kernel_rfl
theorem classes_poly (v : PyData) : m_law_classes [.e "BadPoly" "thing" v] [] = .ok (.d (.list [.str "poly", .str "base", .str "error"])) [] := by
  show finF (b_law_classes [some (.e "BadPoly" "thing" v), none, none, none] []) = _
  rw [classes_split, sq5 (cls_BadPoly_a v)]
  exact retF.trans (cls_BadPoly_b v)
theorem made_prime (v : PyData) (b : Bool) : m_law_made [.d (.str "prime"), .d v, .d (.bool b)] [] = .ok (.e "BadPrime" "thing" v) [] := by
  cases b <;> kernel_rfl
theorem classes_prime (v : PyData) : m_law_classes [.e "BadPrime" "thing" v] [] = .ok (.d (.list [.str "prime", .str "base", .str "error"])) [] := by
  show finF (b_law_classes [some (.e "BadPrime" "thing" v), none, none, none] []) = _
  rw [classes_split, sq5 (cls_BadPrime_a v)]
  exact retF.trans (cls_BadPrime_b v)
theorem made_numbers (v : PyData) (b : Bool) : m_law_made [.d (.str "numbers"), .d v, .d (.bool b)] [] = .ok (.e "BadNumbers" "thing" v) [] := by
  cases b <;> kernel_rfl
theorem classes_numbers (v : PyData) : m_law_classes [.e "BadNumbers" "thing" v] [] = .ok (.d (.list [.str "numbers", .str "base", .str "error"])) [] := by
  show finF (b_law_classes [some (.e "BadNumbers" "thing" v), none, none, none] []) = _
  rw [classes_split, sq5 (cls_BadNumbers_a v)]
  exact retF.trans (cls_BadNumbers_b v)
theorem made_word (v : PyData) (b : Bool) : m_law_made [.d (.str "word"), .d v, .d (.bool b)] [] = .ok (.e "BadWord" "thing" v) [] := by
  cases b <;> kernel_rfl
theorem classes_word (v : PyData) : m_law_classes [.e "BadWord" "thing" v] [] = .ok (.d (.list [.str "word", .str "base", .str "error"])) [] := by
  show finF (b_law_classes [some (.e "BadWord" "thing" v), none, none, none] []) = _
  rw [classes_split, sq5 (cls_BadWord_a v)]
  exact retF.trans (cls_BadWord_b v)
theorem made_text (v : PyData) (b : Bool) : m_law_made [.d (.str "text"), .d v, .d (.bool b)] [] = .ok (.e "BadText" "at" v) [] := by
  cases b <;> kernel_rfl
theorem classes_text (v : PyData) : m_law_classes [.e "BadText" "at" v] [] = .ok (.d (.list [.str "text", .str "base", .str "error"])) [] := by
  show finF (b_law_classes [some (.e "BadText" "at" v), none, none, none] []) = _
  rw [classes_split, sq5 (cls_BadText_a v)]
  exact retF.trans (cls_BadText_b v)
theorem made_lost (v : PyData) (b : Bool) : m_law_made [.d (.str "lost"), .d v, .d (.bool b)] [] = .ok (.e "Lost" "row" v) [] := by
  cases b <;> kernel_rfl
theorem classes_lost (v : PyData) : m_law_classes [.e "Lost" "row" v] [] = .ok (.d (.list [.str "lost", .str "base", .str "error"])) [] := by
  show finF (b_law_classes [some (.e "Lost" "row" v), none, none, none] []) = _
  rw [classes_split, sq5 (cls_Lost_a v)]
  exact retF.trans (cls_Lost_b v)
end G

set_option Elab.async false
set_option linter.all false
set_option maxRecDepth 100000
set_option maxHeartbeats 8000000
namespace G
open PySem PySem.Spec Dd L2

theorem hot_table (a : Addr) (v : PyData) : mH_law_classes a [.x a "BadTable" "thing" v] [] = .ok (.d (.list [.str "table", .str "base", .str "error"])) [] := by
  show finF (bH_law_classes a [some (.x a "BadTable" "thing" v), none, none, none] []) = _
  unfold bH_law_classes
  rw [sq5 (clsH_BadTable_a a v)]
  exact retF.trans (clsH_BadTable_b a v)
theorem app_table (a : Addr) (v : PyData) : (mSeq (mExpr (mMethL fAppend (mVar 2) (mCons (mC fTuple (mCons (mCallP (mH_law_classes a) [] (mCons (mVar 3) mNil)) mNil)) mNil))) mSkip) [some (.d (.str "table")), some (.d v), some (.r 0), some (.x a "BadTable" "thing" v)] [.lst [.d (.tuple [.str "table", v])]] = .nx [some (.d (.str "table")), some (.d v), some (.r 0), some (.x a "BadTable" "thing" v)] [.lst [.d (.tuple [.str "table", v]), .d (.tuple [.str "table", .str "base", .str "error"])]] := by
  have hc : mCallP (mH_law_classes a) [] (mCons (mVar 3) mNil) [some (.d (.str "table")), some (.d v), some (.r 0), some (.x a "BadTable" "thing" v)] [.lst [.d (.tuple [.str "table", v])]] = .ok (.d (.list [.str "table", .str "base", .str "error"])) [.lst [.d (.tuple [.str "table", v])]] := by
    show (if noRef [U.x a "BadTable" "thing" v] = true then impR (mH_law_classes a [.x a "BadTable" "thing" v] []) [.lst [.d (.tuple [.str "table", v])]] else .bad) = _
    rw [if_pos (show noRef [U.x a "BadTable" "thing" v] = true from rfl), hot_table]
    rfl
  have hm : mMethL fAppend (mVar 2) (mCons (mC fTuple (mCons (mCallP (mH_law_classes a) [] (mCons (mVar 3) mNil)) mNil)) mNil) [some (.d (.str "table")), some (.d v), some (.r 0), some (.x a "BadTable" "thing" v)] [.lst [.d (.tuple [.str "table", v])]] = .ok (.d .none) [.lst [.d (.tuple [.str "table", v]), .d (.tuple [.str "table", .str "base", .str "error"])]] := by
    unfold mMethL
    rw [mV (i := 2) (env := [some (.d (.str "table")), some (.d v), some (.r 0), some (.x a "BadTable" "thing" v)]) rfl, bok]
    rw [if_pos (show isStL (.r 0) [.lst [.d (.tuple [.str "table", v])]] = true from rfl)]
    rw [mCons, mC, mCons, hc]
    rfl
  rw [mSeq, mExpr, hm]
  rfl
theorem caught_table (v : PyData) : m_law_caught [.d (.str "table"), .d v] [] = .ok (.d (tellL "table" v)) [.gone] := by
  show finF (b_law_caught [some (.d (.str "table")), some (.d v), none, none] []) = _
  unfold b_law_caught
  refine (congrArg finF (seq_nx (e := [some (.d (.str "table")), some (.d v), some (.r 0), none]) (s := [.lst []]) rfl)).trans ?_
  refine (congrArg finF (seq_nx (e := [some (.d (.str "table")), some (.d v), some (.r 0), none]) (s := [.lst [.d (.tuple [.str "table", v])]]) (mTry_ex (x := ⟨"BadTable", "thing", v⟩) (env' := [some (.d (.str "table")), some (.d v), some (.r 0), none]) (st' := [.lst []]) ?_ (mHdl_true (by rfl) (fun a => ?_))))).trans ?_
  · kernel_rfl
  · kernel_rfl
  refine (congrArg finF (seq_nx (e := [some (.d (.str "table")), some (.d v), some (.r 0), none]) (s := [.lst [.d (.tuple [.str "table", v]), .d (.tuple [.str "table", .str "base", .str "error"])]]) (mTry_ex (x := ⟨"BadTable", "thing", v⟩) (env' := [some (.d (.str "table")), some (.d v), some (.r 0), none]) (st' := [.lst [.d (.tuple [.str "table", v])]]) ?_ (mHdl_true (by rfl) (fun a => ?_))))).trans ?_
  · kernel_rfl
  · exact congrArg (finO (some 3)) (app_table a v)
  · refine retF.trans ?_
    kernel_rfl
theorem hot_text (a : Addr) (v : PyData) : mH_law_classes a [.x a "BadText" "at" v] [] = .ok (.d (.list [.str "text", .str "base", .str "error"])) [] := by
  show finF (bH_law_classes a [some (.x a "BadText" "at" v), none, none, none] []) = _
  unfold bH_law_classes
  rw [sq5 (clsH_BadText_a a v)]
  exact retF.trans (clsH_BadText_b a v)
theorem app_text (a : Addr) (v : PyData) : (mSeq (mExpr (mMethL fAppend (mVar 2) (mCons (mC fTuple (mCons (mCallP (mH_law_classes a) [] (mCons (mVar 3) mNil)) mNil)) mNil))) mSkip) [some (.d (.str "text")), some (.d v), some (.r 0), some (.x a "BadText" "at" v)] [.lst [.d (.tuple [.str "text", v])]] = .nx [some (.d (.str "text")), some (.d v), some (.r 0), some (.x a "BadText" "at" v)] [.lst [.d (.tuple [.str "text", v]), .d (.tuple [.str "text", .str "base", .str "error"])]] := by
  have hc : mCallP (mH_law_classes a) [] (mCons (mVar 3) mNil) [some (.d (.str "text")), some (.d v), some (.r 0), some (.x a "BadText" "at" v)] [.lst [.d (.tuple [.str "text", v])]] = .ok (.d (.list [.str "text", .str "base", .str "error"])) [.lst [.d (.tuple [.str "text", v])]] := by
    show (if noRef [U.x a "BadText" "at" v] = true then impR (mH_law_classes a [.x a "BadText" "at" v] []) [.lst [.d (.tuple [.str "text", v])]] else .bad) = _
    rw [if_pos (show noRef [U.x a "BadText" "at" v] = true from rfl), hot_text]
    rfl
  have hm : mMethL fAppend (mVar 2) (mCons (mC fTuple (mCons (mCallP (mH_law_classes a) [] (mCons (mVar 3) mNil)) mNil)) mNil) [some (.d (.str "text")), some (.d v), some (.r 0), some (.x a "BadText" "at" v)] [.lst [.d (.tuple [.str "text", v])]] = .ok (.d .none) [.lst [.d (.tuple [.str "text", v]), .d (.tuple [.str "text", .str "base", .str "error"])]] := by
    unfold mMethL
    rw [mV (i := 2) (env := [some (.d (.str "text")), some (.d v), some (.r 0), some (.x a "BadText" "at" v)]) rfl, bok]
    rw [if_pos (show isStL (.r 0) [.lst [.d (.tuple [.str "text", v])]] = true from rfl)]
    rw [mCons, mC, mCons, hc]
    rfl
  rw [mSeq, mExpr, hm]
  rfl
theorem caught_text (v : PyData) : m_law_caught [.d (.str "text"), .d v] [] = .ok (.d (tellL "text" v)) [.gone] := by
  show finF (b_law_caught [some (.d (.str "text")), some (.d v), none, none] []) = _
  unfold b_law_caught
  refine (congrArg finF (seq_nx (e := [some (.d (.str "text")), some (.d v), some (.r 0), none]) (s := [.lst []]) rfl)).trans ?_
  refine (congrArg finF (seq_nx (e := [some (.d (.str "text")), some (.d v), some (.r 0), none]) (s := [.lst [.d (.tuple [.str "text", v])]]) (mTry_ex (x := ⟨"BadText", "at", v⟩) (env' := [some (.d (.str "text")), some (.d v), some (.r 0), none]) (st' := [.lst []]) ?_ (mHdl_false (by rfl) (mHdl_true (by rfl) (fun a => ?_)))))).trans ?_
  · kernel_rfl
  · kernel_rfl
  refine (congrArg finF (seq_nx (e := [some (.d (.str "text")), some (.d v), some (.r 0), none]) (s := [.lst [.d (.tuple [.str "text", v]), .d (.tuple [.str "text", .str "base", .str "error"])]]) (mTry_ex (x := ⟨"BadText", "at", v⟩) (env' := [some (.d (.str "text")), some (.d v), some (.r 0), none]) (st' := [.lst [.d (.tuple [.str "text", v])]]) ?_ (mHdl_true (by rfl) (fun a => ?_))))).trans ?_
  · kernel_rfl
  · exact congrArg (finO (some 3)) (app_text a v)
  · refine retF.trans ?_
    kernel_rfl
theorem hot_lost (a : Addr) (v : PyData) : mH_law_classes a [.x a "Lost" "row" v] [] = .ok (.d (.list [.str "lost", .str "base", .str "error"])) [] := by
  show finF (bH_law_classes a [some (.x a "Lost" "row" v), none, none, none] []) = _
  unfold bH_law_classes
  rw [sq5 (clsH_Lost_a a v)]
  exact retF.trans (clsH_Lost_b a v)
theorem app_lost (a : Addr) (v : PyData) : (mSeq (mExpr (mMethL fAppend (mVar 2) (mCons (mC fTuple (mCons (mCallP (mH_law_classes a) [] (mCons (mVar 3) mNil)) mNil)) mNil))) mSkip) [some (.d (.str "lost")), some (.d v), some (.r 0), some (.x a "Lost" "row" v)] [.lst [.d (.tuple [.str "lost", v])]] = .nx [some (.d (.str "lost")), some (.d v), some (.r 0), some (.x a "Lost" "row" v)] [.lst [.d (.tuple [.str "lost", v]), .d (.tuple [.str "lost", .str "base", .str "error"])]] := by
  have hc : mCallP (mH_law_classes a) [] (mCons (mVar 3) mNil) [some (.d (.str "lost")), some (.d v), some (.r 0), some (.x a "Lost" "row" v)] [.lst [.d (.tuple [.str "lost", v])]] = .ok (.d (.list [.str "lost", .str "base", .str "error"])) [.lst [.d (.tuple [.str "lost", v])]] := by
    show (if noRef [U.x a "Lost" "row" v] = true then impR (mH_law_classes a [.x a "Lost" "row" v] []) [.lst [.d (.tuple [.str "lost", v])]] else .bad) = _
    rw [if_pos (show noRef [U.x a "Lost" "row" v] = true from rfl), hot_lost]
    rfl
  have hm : mMethL fAppend (mVar 2) (mCons (mC fTuple (mCons (mCallP (mH_law_classes a) [] (mCons (mVar 3) mNil)) mNil)) mNil) [some (.d (.str "lost")), some (.d v), some (.r 0), some (.x a "Lost" "row" v)] [.lst [.d (.tuple [.str "lost", v])]] = .ok (.d .none) [.lst [.d (.tuple [.str "lost", v]), .d (.tuple [.str "lost", .str "base", .str "error"])]] := by
    unfold mMethL
    rw [mV (i := 2) (env := [some (.d (.str "lost")), some (.d v), some (.r 0), some (.x a "Lost" "row" v)]) rfl, bok]
    rw [if_pos (show isStL (.r 0) [.lst [.d (.tuple [.str "lost", v])]] = true from rfl)]
    rw [mCons, mC, mCons, hc]
    rfl
  rw [mSeq, mExpr, hm]
  rfl
theorem caught_lost (v : PyData) : m_law_caught [.d (.str "lost"), .d v] [] = .ok (.d (tellL "lost" v)) [.gone] := by
  show finF (b_law_caught [some (.d (.str "lost")), some (.d v), none, none] []) = _
  unfold b_law_caught
  refine (congrArg finF (seq_nx (e := [some (.d (.str "lost")), some (.d v), some (.r 0), none]) (s := [.lst []]) rfl)).trans ?_
  refine (congrArg finF (seq_nx (e := [some (.d (.str "lost")), some (.d v), some (.r 0), none]) (s := [.lst [.d (.tuple [.str "lost", v])]]) (mTry_ex (x := ⟨"Lost", "row", v⟩) (env' := [some (.d (.str "lost")), some (.d v), some (.r 0), none]) (st' := [.lst []]) ?_ (mHdl_false (by rfl) (mHdl_false (by rfl) (mHdl_true (by rfl) (fun a => ?_))))))).trans ?_
  · kernel_rfl
  · kernel_rfl
  refine (congrArg finF (seq_nx (e := [some (.d (.str "lost")), some (.d v), some (.r 0), none]) (s := [.lst [.d (.tuple [.str "lost", v]), .d (.tuple [.str "lost", .str "base", .str "error"])]]) (mTry_ex (x := ⟨"Lost", "row", v⟩) (env' := [some (.d (.str "lost")), some (.d v), some (.r 0), none]) (st' := [.lst [.d (.tuple [.str "lost", v])]]) ?_ (mHdl_true (by rfl) (fun a => ?_))))).trans ?_
  · kernel_rfl
  · exact congrArg (finO (some 3)) (app_lost a v)
  · refine retF.trans ?_
    kernel_rfl
end G

set_option Elab.async false
set_option linter.all false
set_option maxRecDepth 100000
set_option maxHeartbeats 8000000
namespace G
open PySem PySem.Spec Dd L2
theorem cut_ints (ns : List Int) (lo hi : Option Int) : ∃ cs : List Int, cs.length ≤ ns.length ∧ cutL (ns.map fun n => U.d (.int n)) lo hi = cs.map fun n => U.d (.int n) := by
  refine ⟨(ns.drop (HT.sIx (ns.map fun n => U.d (.int n)).length 0 lo)).take (HT.sIx (ns.map fun n => U.d (.int n)).length (ns.map fun n => U.d (.int n)).length hi - HT.sIx (ns.map fun n => U.d (.int n)).length 0 lo), ?_, ?_⟩
  · rw [List.length_take, List.length_drop]; omega
  · unfold cutL
    rw [List.map_take, List.map_drop]
noncomputable def KB : MS := (mSeq (mSet 1 (mBin dMod (mC fInt (mCons (mBin dAdd (mBin dAdd (mBin (dMul false) (mVar 1) (mD (.int 48271))) (mBin dMod (mC fInt (mCons (mVar 2) mNil)) (mD (.int 2147483629)))) (mD (.int 71))) mNil)) (mD (.int 2147483587))))
  mSkip)
theorem kb {st : Sto} {x : U} {m i : Int} (h0 : 0 ≤ m) (h1 : m < 2147483648) : KB [some x, some (.d (.int m)), some (.d (.int i))] st = .nx [some x, some (.d (.int ((m * 48271 + i % 2147483629 + 71) % 2147483587))), some (.d (.int i))] st := by
  unfold KB
  simp only [mSeq, mSet, mBin, mC, mCons, mNil, mD, mV (i := 1) (env := [some x, some (.d (.int m)), some (.d (.int i))]) rfl, mV (i := 2) (env := [some x, some (.d (.int m)), some (.d (.int i))]) rfl, bok, tok, mls m 48271 st (lg h0 (by omega)) (by decide), ads, fint, mds _ 2147483629 st (by decide), mds _ 2147483587 st (by decide), List.set]
  rfl
theorem loopB {st : Sto} {x : U} : ∀ {cs : List Int} {m : Int} {z : Option U}, 0 ≤ m → m < 2147483648 → ∃ m' z', 0 ≤ m' ∧ m' < 2147483648 ∧ forL0 (gN 2) KB (cs.map fun n => U.d (.int n)) [some x, some (.d (.int m)), z] st = .nx [some x, some (.d (.int m')), z'] st
  | [], m, z, h0, h1 => ⟨m, z, h0, h1, rfl⟩
  | i :: cs, m, z, h0, h1 => by
    have a0 := Int.emod_nonneg (m * 48271 + i % 2147483629 + 71) (b := 2147483587) (by decide)
    have a1 := Int.emod_lt_of_pos (m * 48271 + i % 2147483629 + 71) (b := 2147483587) (by decide)
    obtain ⟨m', z', b0, b1, e⟩ := loopB (st := st) (x := x) (cs := cs) (z := some (.d (.int i))) a0 (by omega)
    refine ⟨m', z', b0, b1, ?_⟩
    rw [List.map_cons, forL0]
    show (match KB [some x, some (.d (.int m)), some (.d (.int i))] st with
      | .nx e s => forL0 (gN 2) KB (cs.map fun n => U.d (.int n)) e s
      | .ct e s => forL0 (gN 2) KB (cs.map fun n => U.d (.int n)) e s
      | .bk e s => .nx e s
      | o => o) = _
    rw [kb h0 h1]
    exact e
theorem slc {ns cs : List Int} {env : En} {st : Sto} (he : env[0]? = some (some (.s ns))) (hc : cutL (ns.map fun n => U.d (.int n)) none (some 63) = cs.map fun n => U.d (.int n)) :
    mSlA false (mVar 0) mNoPart (mPart (mD (.int 63))) env st = .ok (.d (.list (cs.map .int))) st := by
  unfold mSlA
  rw [mV he, bok]
  show mkL false (cutL (ns.map fun n => U.d (.int n)) none (some 63)) st = _
  rw [hc]
  unfold mkL
  rw [if_neg (by decide), datas_ints]
theorem deck_ok (ns : List Int) (hn : ns.length ≤ 63) : ∃ st', m_law_deck [.s ns] [] = .ok (.r 0) st' ∧ DeckAt st' 0 := by
  obtain ⟨cs, hl, hc⟩ := cut_ints ns none (some 63)
  obtain ⟨m, z, h0, h1, e⟩ := loopB (st := []) (x := .s ns) (cs := cs) (m := 10899000) (z := none) (by decide) (by decide)
  refine ⟨[dk 2 m 0, .lst (cs.map fun n => U.d (.int n)), .lst (cs.map fun n => U.d (.int n)).reverse], ?_, ⟨2, m, 0, cs.reverse, rfl, by decide, by rw [List.map_reverse]; rfl, h0, h1, by decide, by decide, by rw [List.length_reverse]; omega⟩⟩
  show finF (b_law_deck [some (.s ns), none, none] []) = _
  unfold b_law_deck
  refine (congrArg finF (seq_nx (e := [some (.s ns), some (.d (.int 10899000)), none]) (s := []) rfl)).trans ?_
  refine (congrArg finF (seq_nx (e := [some (.s ns), some (.d (.int m)), z]) (s := []) ?_)).trans ?_
  · rw [mFor_eq (st1 := []) (us := cs.map fun n => U.d (.int n))]
    · exact e
    · unfold mIt
      rw [slc (cs := cs) rfl hc, bok]
      have e1 : seqOf (.d (.list (cs.map .int))) [] = some (cs.map fun n => U.d (.int n)) := by
        show some ((cs.map PyData.int).map U.d) = _
        rw [List.map_map]; rfl
      rw [e1]
      rfl
  refine retF.trans ?_
  unfold mDict
  have e2 : mPairs [((mD (.str "cells")), (mRevA true (mC (fList true) (mCons (mSlA false (mVar 0) mNoPart (mPart (mD (.int 63)))) mNil)))), ((mD (.str "mixed")), (mVar 1)), ((mD (.str "draws")), (mD (.int 0)))] [some (.s ns), some (.d (.int m)), z] ([] ++ [.dK []]) =
      .ok [(.d (.str "cells"), .r 2), (.d (.str "mixed"), .d (.int m)), (.d (.str "draws"), .d (.int 0))] [.dK [], .lst (cs.map fun n => U.d (.int n)), .lst (cs.map fun n => U.d (.int n)).reverse] := by
    have el : fList true [.d (.list (cs.map .int))] [.dK []] = .ok (U.r 1) [.dK [], .lst (cs.map fun n => U.d (.int n))] := by
      show EO.ok (U.r 1) [.dK [], .lst ((cs.map PyData.int).map U.d)] = _
      rw [List.map_map]; rfl
    simp only [mPairs, mD, mRevA, mC, mCons, mNil, bok, List.nil_append, slc (cs := cs) (env := [some (.s ns), some (.d (.int m)), z]) rfl hc, el, mV (i := 1) (env := [some (.s ns), some (.d (.int m)), z]) rfl]
    rfl
  rw [e2, bok]
  rfl
end G

set_option Elab.async false
set_option linter.all false
set_option maxRecDepth 100000
set_option maxHeartbeats 8000000
namespace G
open PySem PySem.Spec Dd L2

noncomputable def CB : MS := (mSeq (mIfS (mTest (mBin (dEq true) (mC fRepr (mCons (mCallP m_law_caught [] (mCons (mVar 5) (mCons (mVar 3) mNil))) mNil)) (mC fRepr (mCons (mLst false (mCons (mTup (mCons (mVar 5) (mCons (mVar 3) mNil))) (mCons (mTup (mCons (mVar 5) (mCons (mD (.str "base")) (mCons (mD (.str "error")) mNil)))) mNil))) mNil))))
  (mSeq (mRet (mD (.bool false)))
  mSkip)
  mSkip)
  mSkip)
noncomputable def NB3 : MS := (mIfS (mOr (mTest (mBin (dEq true) (mC fRepr (mCons (mVar 8) mNil)) (mVar 4))) (mTest (mBin (dEq true) (mCallP m_law_classes [] (mCons (mVar 7) mNil)) (mLst false (mCons (mVar 5) (mCons (mD (.str "base")) (mCons (mD (.str "error")) mNil)))))))
  (mSeq (mRet (mD (.bool false)))
  mSkip)
  mSkip)
noncomputable def NBe : ME := (mIf (mTest (mBin (dEq false) (mVar 5) (mD (.str "text")))) (mXat xtab "at" (mVar 7)) (mIf (mTest (mBin (dEq false) (mVar 5) (mD (.str "lost")))) (mXat xtab "row" (mVar 7)) (mXat xtab "thing" (mVar 7))))
noncomputable def NB : MS := mSeq (mSet 7 (mCallP m_law_made [] (mCons (mVar 5) (mCons (mVar 3) (mCons (mVar 6) mNil))))) (mSeq (mSet 8 NBe) (mSeq NB3 mSkip))
noncomputable def WB : MS := mSeq (mFor (mIt (mTup (mCons (mD (.bool false)) (mCons (mD (.bool true)) mNil)))) (gN 6) NB) mSkip
noncomputable def WF : MS := mFor (mIt (mTup (mCons (mD (.str "table")) (mCons (mD (.str "other")) (mCons (mD (.str "row")) (mCons (mD (.str "number")) (mCons (mD (.str "poly")) (mCons (mD (.str "prime")) (mCons (mD (.str "numbers")) (mCons (mD (.str "word")) (mCons (mD (.str "text")) (mCons (mD (.str "lost")) mNil)))))))))))) (gN 5) WB
noncomputable def CF : MS := mFor (mIt (mTup (mCons (mD (.str "table")) (mCons (mD (.str "text")) (mCons (mD (.str "lost")) mNil))))) (gN 5) CB
noncomputable def T1e : ME := (mCallS m_law_odd [] (mCons (mVar 1) (mCons (mCallS m_law_pick [] (mCons (mVar 1) (mCons (mLst false (mCons (mTup (mCons (mD (.int 2)) (mCons (mTup (mCons (mTup (mCons (mD (.int 1)) (mCons (mD (.int 0)) mNil))) (mCons (mTup (mCons (mD (.int 0)) (mCons (mD (.int 1)) mNil))) mNil))) mNil))) (mCons (mD (.int 3)) (mCons (mD (.str "table 2 1")) (mCons (mD .none) mNil))))) mNil))) mNil)))
noncomputable def T2e : ME := (mIf (mTest (mBin (dEq false) (mCallS m_law_draw [] (mCons (mVar 1) (mCons (mD (.int 4)) mNil))) (mD (.int 0)))) (mTup (mCons (mVar 3) (mCons (mLst false (mCons (mVar 3) mNil)) mNil))) (mVar 3))
noncomputable def TB : MS := mSeq (mSet 3 T1e) (mSeq (mSet 3 T2e) (mSeq (mSet 4 (mC fRepr (mCons (mVar 3) mNil))) (mSeq WF (mSeq CF mSkip))))
theorem law_split : b_law = mSeq (mSet 1 (mCallS m_law_deck [] (mCons (mVar 0) mNil))) (mSeq (mFor (mRg1 (mCons (mD (.int 4)) mNil)) (gN 2) TB) (mSeq (mRet (mD (.bool true))) mSkip)) := rfl

theorem forL0_inv {P : En → Prop} {st : Sto} {g : MG} {body : MS} : ∀ {us : List U}, (∀ u ∈ us, ∀ env, P env → ∃ env1 env2, g u env st = some env1 ∧ body env1 st = .nx env2 st ∧ P env2) → ∀ {env : En}, P env → ∃ env', forL0 g body us env st = .nx env' st ∧ P env'
  | [], _, env, p => ⟨env, rfl, p⟩
  | u :: r, H, env, p => by
    obtain ⟨env1, env2, h1, h2, p2⟩ := H u List.mem_cons_self env p
    obtain ⟨env', h3, p3⟩ := forL0_inv (us := r) (fun u hu => H u (List.mem_cons_of_mem _ hu)) p2
    refine ⟨env', ?_, p3⟩
    unfold forL0
    rw [h1]
    dsimp only
    rw [h2]
    exact h3
theorem eqs {v : PyData} (h : okW v = true) (st : Sto) : dEq true (.d (.str v.shown)) (.d (.str v.shown)) st = .ok (.d (.bool false)) st := by
  have h1 : PyData.eqv (.str v.shown) (.str v.shown) = true := by simp [PyData.eqv]
  unfold okW at h
  rw [Bool.and_eq_true] at h
  show (if (SeqAt.shaped (.str v.shown) && SeqAt.shaped (.str v.shown)) = true then EO.ok (U.d (.bool (!PyData.eqv (.str v.shown) (.str v.shown)))) st else .bad) = _
  have h2 : SeqAt.shaped (.str v.shown) = true := by simp [SeqAt.shaped, PyData.canLay0, PyData.depth, h.2]
  rw [h1, h2]; rfl
theorem rep {v : PyData} {st : Sto} (h : okW v = true) : fRepr [.d v] st = .ok (.d (.str v.shown)) st := by
  unfold okW at h
  rw [Bool.and_eq_true] at h
  show (if okShow v = true then EO.ok (U.d (.str v.shown)) st else .bad) = _
  rw [if_pos h.1]
abbrev E9 (ns : List Int) (tt : U) (v : PyData) (x5 x6 x7 x8 : Option U) : En := [some (.s ns), some (.r 0), some tt, some (.d v), some (.d (.str v.shown)), x5, x6, x7, x8]

theorem nb_of {ns : List Int} {tt : U} {v : PyData} {w c f : Str} {b : Bool} {x7 x8 : Option U} {st : Sto} (hv : okW v = true)
    (hm : m_law_made [.d (.str w), .d v, .d (.bool b)] [] = .ok (.e c f v) []) (hc : m_law_classes [.e c f v] [] = .ok (.d (.list [.str w, .str "base", .str "error"])) [])
    (he : NBe (E9 ns tt v (some (.d (.str w))) (some (.d (.bool b))) (some (.e c f v)) x8) st = .ok (.d v) st)
    (hq : dEq true (.d (.list [.str w, .str "base", .str "error"])) (.d (.list [.str w, .str "base", .str "error"])) st = .ok (.d (.bool false)) st) :
    NB (E9 ns tt v (some (.d (.str w))) (some (.d (.bool b))) x7 x8) st = .nx (E9 ns tt v (some (.d (.str w))) (some (.d (.bool b))) (some (.e c f v)) (some (.d v))) st := by
  unfold NB
  rw [seq_nx (e := E9 ns tt v (some (.d (.str w))) (some (.d (.bool b))) (some (.e c f v)) x8) (s := st)]
  · rw [seq_nx (e := E9 ns tt v (some (.d (.str w))) (some (.d (.bool b))) (some (.e c f v)) (some (.d v))) (s := st)]
    · rw [seq_nx (e := E9 ns tt v (some (.d (.str w))) (some (.d (.bool b))) (some (.e c f v)) (some (.d v))) (s := st)]
      · rfl
      · unfold NB3
        have q1 : (mTest (mBin (dEq true) (mC fRepr (mCons (mVar 8) mNil)) (mVar 4))) (E9 ns tt v (some (.d (.str w))) (some (.d (.bool b))) (some (.e c f v)) (some (.d v))) st = .ok false st := by
          unfold mTest mBin mC
          rw [mCons, mV (i := 8) (u := .d v) rfl, bok, mNil, bok, bok, rep hv, bok, mV (i := 4) (u := .d (.str v.shown)) rfl, bok, eqs hv]
          rfl
        have q2 : (mTest (mBin (dEq true) (mCallP m_law_classes [] (mCons (mVar 7) mNil)) (mLst false (mCons (mVar 5) (mCons (mD (.str "base")) (mCons (mD (.str "error")) mNil)))))) (E9 ns tt v (some (.d (.str w))) (some (.d (.bool b))) (some (.e c f v)) (some (.d v))) st = .ok false st := by
          have hcc : mCallP m_law_classes [] (mCons (mVar 7) mNil) (E9 ns tt v (some (.d (.str w))) (some (.d (.bool b))) (some (.e c f v)) (some (.d v))) st = .ok (.d (.list [.str w, .str "base", .str "error"])) st := by
            show (if noRef [U.e c f v] = true then impR (m_law_classes [.e c f v] []) st else .bad) = _
            rw [if_pos (show noRef [U.e c f v] = true from rfl), hc]
            rfl
          unfold mTest mBin
          rw [hcc, bok]
          show ((dEq true (.d (.list [.str w, .str "base", .str "error"])) (.d (.list [.str w, .str "base", .str "error"])) st).bind _) = _
          rw [hq]
          rfl
        rw [mIfS, mOr, q1, bok]
        show (mTest _ _ st).thenS _ _ = _
        rw [q2]
        rfl
    · rw [mSet, he]; rfl
  · have hmm : (mCallP m_law_made [] (mCons (mVar 5) (mCons (mVar 3) (mCons (mVar 6) mNil)))) (E9 ns tt v (some (.d (.str w))) (some (.d (.bool b))) x7 x8) st = .ok (.e c f v) st := by
      show (if noRef [U.d (.str w), U.d v, U.d (.bool b)] = true then impR (m_law_made [.d (.str w), .d v, .d (.bool b)] []) st else .bad) = _
      rw [if_pos (show noRef [U.d (.str w), U.d v, U.d (.bool b)] = true from rfl), hm]
      rfl
    rw [mSet, hmm]
    rfl

theorem nb_ok {ns : List Int} {tt : U} {v : PyData} {w : Str} {b : Bool} {x7 x8 : Option U} {st : Sto} (hv : okW v = true) (hw : w ∈ (["table", "other", "row", "number", "poly", "prime", "numbers", "word", "text", "lost"] : List Str)) :
    ∃ c f, NB (E9 ns tt v (some (.d (.str w))) (some (.d (.bool b))) x7 x8) st = .nx (E9 ns tt v (some (.d (.str w))) (some (.d (.bool b))) (some (.e c f v)) (some (.d v))) st := by
  simp only [List.mem_cons, List.mem_nil_iff, or_false] at hw
  rcases hw with rfl | rfl | rfl | rfl | rfl | rfl | rfl | rfl | rfl | rfl
  · exact ⟨_, _, nb_of hv (made_table v b) (classes_table v) (by kernel_rfl) (by kernel_rfl)⟩
  · exact ⟨_, _, nb_of hv (made_other v b) (classes_other v) (by kernel_rfl) (by kernel_rfl)⟩
  · exact ⟨_, _, nb_of hv (made_row v b) (classes_row v) (by kernel_rfl) (by kernel_rfl)⟩
  · exact ⟨_, _, nb_of hv (made_number v b) (classes_number v) (by kernel_rfl) (by kernel_rfl)⟩
  · exact ⟨_, _, nb_of hv (made_poly v b) (classes_poly v) (by kernel_rfl) (by kernel_rfl)⟩
  · exact ⟨_, _, nb_of hv (made_prime v b) (classes_prime v) (by kernel_rfl) (by kernel_rfl)⟩
  · exact ⟨_, _, nb_of hv (made_numbers v b) (classes_numbers v) (by kernel_rfl) (by kernel_rfl)⟩
  · exact ⟨_, _, nb_of hv (made_word v b) (classes_word v) (by kernel_rfl) (by kernel_rfl)⟩
  · exact ⟨_, _, nb_of hv (made_text v b) (classes_text v) (by kernel_rfl) (by kernel_rfl)⟩
  · exact ⟨_, _, nb_of hv (made_lost v b) (classes_lost v) (by kernel_rfl) (by kernel_rfl)⟩

theorem wb_ok {ns : List Int} {tt : U} {v : PyData} {w : Str} {x6 x7 x8 : Option U} {st : Sto} (hv : okW v = true) (hw : w ∈ (["table", "other", "row", "number", "poly", "prime", "numbers", "word", "text", "lost"] : List Str)) :
    ∃ y6 y7 y8, WB (E9 ns tt v (some (.d (.str w))) x6 x7 x8) st = .nx (E9 ns tt v (some (.d (.str w))) y6 y7 y8) st := by
  obtain ⟨env', h1, y6, y7, y8, rfl⟩ := forL0_inv (P := fun env => ∃ y6 y7 y8, env = E9 ns tt v (some (.d (.str w))) y6 y7 y8) (st := st) (g := gN 6) (body := NB) (us := [.d (.bool false), .d (.bool true)]) (fun u hu env hp => by
    obtain ⟨y6, y7, y8, rfl⟩ := hp
    have hb : ∃ b, u = .d (.bool b) := by
      simp only [List.mem_cons, List.mem_nil_iff, or_false] at hu
      rcases hu with rfl | rfl <;> exact ⟨_, rfl⟩
    obtain ⟨b, rfl⟩ := hb
    obtain ⟨c, f, h⟩ := nb_ok (ns := ns) (tt := tt) (b := b) (x7 := y7) (x8 := y8) (st := st) hv hw
    exact ⟨_, _, rfl, h, _, _, _, rfl⟩) (env := E9 ns tt v (some (.d (.str w))) x6 x7 x8) ⟨_, _, _, rfl⟩
  refine ⟨y6, y7, y8, ?_⟩
  unfold WB
  rw [seq_nx (e := E9 ns tt v (some (.d (.str w))) y6 y7 y8) (s := st)]
  · rfl
  · rw [mFor_eq (st1 := st) (us := [.d (.bool false), .d (.bool true)])]
    · exact h1
    · rfl
theorem wf_ok {ns : List Int} {tt : U} {v : PyData} {x5 x6 x7 x8 : Option U} {st : Sto} (hv : okW v = true) :
    ∃ y5 y6 y7 y8, WF (E9 ns tt v x5 x6 x7 x8) st = .nx (E9 ns tt v y5 y6 y7 y8) st := by
  obtain ⟨env', h1, y5, y6, y7, y8, rfl⟩ := forL0_inv (P := fun env => ∃ y5 y6 y7 y8, env = E9 ns tt v y5 y6 y7 y8) (st := st) (g := gN 5) (body := WB) (us := (["table", "other", "row", "number", "poly", "prime", "numbers", "word", "text", "lost"] : List Str).map fun w => .d (.str w)) (fun u hu env hp => by
    obtain ⟨y5, y6, y7, y8, rfl⟩ := hp
    obtain ⟨w, hw, rfl⟩ := List.mem_map.mp hu
    obtain ⟨z6, z7, z8, h⟩ := wb_ok (ns := ns) (tt := tt) (x6 := y6) (x7 := y7) (x8 := y8) (st := st) hv hw
    exact ⟨_, _, rfl, h, _, _, _, _, rfl⟩) (env := E9 ns tt v x5 x6 x7 x8) ⟨_, _, _, _, rfl⟩
  refine ⟨y5, y6, y7, y8, ?_⟩
  unfold WF
  rw [mFor_eq (st1 := st) (us := (["table", "other", "row", "number", "poly", "prime", "numbers", "word", "text", "lost"] : List Str).map fun w => .d (.str w))]
  · exact h1
  · rfl

theorem cb_of {ns : List Int} {tt : U} {v : PyData} {w : Str} {x6 x7 x8 : Option U} {st : Sto} (hv : okW (tellL w v) = true) (hc : m_law_caught [.d (.str w), .d v] [] = .ok (.d (tellL w v)) [.gone]) :
    CB (E9 ns tt v (some (.d (.str w))) x6 x7 x8) st = .nx (E9 ns tt v (some (.d (.str w))) x6 x7 x8) st := by
  have hcc : mCallP m_law_caught [] (mCons (mVar 5) (mCons (mVar 3) mNil)) (E9 ns tt v (some (.d (.str w))) x6 x7 x8) st = .ok (.d (tellL w v)) st := by
    show (if noRef [U.d (.str w), U.d v] = true then impR (m_law_caught [.d (.str w), .d v] []) st else .bad) = _
    rw [if_pos (show noRef [U.d (.str w), U.d v] = true from rfl), hc]
    rfl
  have hl : (mLst false (mCons (mTup (mCons (mVar 5) (mCons (mVar 3) mNil))) (mCons (mTup (mCons (mVar 5) (mCons (mD (.str "base")) (mCons (mD (.str "error")) mNil)))) mNil))) (E9 ns tt v (some (.d (.str w))) x6 x7 x8) st = .ok (.d (tellL w v)) st := rfl
  unfold CB
  rw [seq_nx (e := E9 ns tt v (some (.d (.str w))) x6 x7 x8) (s := st)]
  · rfl
  · unfold mIfS mTest mBin mC
    rw [mCons, hcc, bok, mNil, bok, bok, rep hv, bok, mCons, hl, bok, mNil, bok, bok, rep hv, bok, eqs hv]
    rfl
theorem cb_ok {ns : List Int} {tt : U} {v : PyData} {w : Str} {x6 x7 x8 : Option U} {st : Sto} (hv : okV v = true) (hw : w ∈ (["table", "text", "lost"] : List Str)) :
    CB (E9 ns tt v (some (.d (.str w))) x6 x7 x8) st = .nx (E9 ns tt v (some (.d (.str w))) x6 x7 x8) st := by
  unfold okV at hv
  simp only [Bool.and_eq_true] at hv
  simp only [List.mem_cons, List.mem_nil_iff, or_false] at hw
  rcases hw with rfl | rfl | rfl
  · exact cb_of hv.1.1.2 (caught_table v)
  · exact cb_of hv.1.2 (caught_text v)
  · exact cb_of hv.2 (caught_lost v)
theorem cf_ok {ns : List Int} {tt : U} {v : PyData} {x5 x6 x7 x8 : Option U} {st : Sto} (hv : okV v = true) :
    ∃ y5 y6 y7 y8, CF (E9 ns tt v x5 x6 x7 x8) st = .nx (E9 ns tt v y5 y6 y7 y8) st := by
  obtain ⟨env', h1, y5, y6, y7, y8, rfl⟩ := forL0_inv (P := fun env => ∃ y5 y6 y7 y8, env = E9 ns tt v y5 y6 y7 y8) (st := st) (g := gN 5) (body := CB) (us := (["table", "text", "lost"] : List Str).map fun w => .d (.str w)) (fun u hu env hp => by
    obtain ⟨y5, y6, y7, y8, rfl⟩ := hp
    obtain ⟨w, hw, rfl⟩ := List.mem_map.mp hu
    exact ⟨_, _, rfl, cb_ok (ns := ns) (tt := tt) (x6 := y6) (x7 := y7) (x8 := y8) (st := st) hv hw, _, _, _, _, rfl⟩) (env := E9 ns tt v x5 x6 x7 x8) ⟨_, _, _, _, rfl⟩
  refine ⟨y5, y6, y7, y8, ?_⟩
  unfold CF
  rw [mFor_eq (st1 := st) (us := (["table", "text", "lost"] : List Str).map fun w => .d (.str w))]
  · exact h1
  · rfl
abbrev X9 (ns : List Int) (x2 x3 x4 x5 x6 x7 x8 : Option U) : En := [some (.s ns), some (.r 0), x2, x3, x4, x5, x6, x7, x8]
theorem t1 {ns : List Int} {x2 x3 x4 x5 x6 x7 x8 : Option U} {st : Sto} {b : Int} (D : DeckAt st b) (hb : b ≤ 99000) : ∃ x st', okP x = true ∧ T1e (X9 ns x2 x3 x4 x5 x6 x7 x8) st = .ok (.d x) st' ∧ DeckAt st' (b + 2) := by
  obtain ⟨it, st1, hit, e1, D1, _⟩ := pick_ok D (by omega) (xs := [itA, .int 3, .str "table 2 1", .none]) (by decide) (by decide)
  obtain ⟨x, st2, hx, e2, D2⟩ := odd_ok D1 (by omega) hit
  refine ⟨x, st2, hx, ?_, by rw [Int.add_assoc] at D2; exact D2⟩
  unfold T1e
  rw [callS (us := [.r 0, .d it]) (st' := st1)]
  · exact e2
  · rw [mCons, mV (i := 1) (u := .r 0) rfl, bok, mCons, callS (us := [.r 0, .d (.list [itA, .int 3, .str "table 2 1", .none])]) (st' := st), e1, bok, mNil, bok, bok]
    rfl
theorem t2 {ns : List Int} {x2 x4 x5 x6 x7 x8 : Option U} {x : PyData} {st : Sto} {b : Int} (D : DeckAt st b) (hb : b ≤ 99000) (hx : okP x = true) : ∃ v st', okV v = true ∧ T2e (X9 ns x2 (some (.d x)) x4 x5 x6 x7 x8) st = .ok (.d v) st' ∧ DeckAt st' (b + 1) := by
  obtain ⟨r, st1, e1, r0, r1, D1, _⟩ := draw_ok D (by omega) (many := 4) (by decide) (by decide)
  unfold okP at hx
  rw [Bool.and_eq_true] at hx
  have hd : mCallS m_law_draw [] (mCons (mVar 1) (mCons (mD (.int 4)) mNil)) (X9 ns x2 (some (.d x)) x4 x5 x6 x7 x8) st = .ok (.d (.int r)) st1 := by
    rw [callS (us := [.r 0, .d (.int 4)]) (st' := st)]
    · exact e1
    · rfl
  have he : dEq false (.d (.int r)) (.d (.int 0)) st1 = .ok (.d (.bool (decide (r = 0)))) st1 := by
    have r4 : r = 0 ∨ r = 1 ∨ r = 2 ∨ r = 3 := by omega
    rcases r4 with rfl | rfl | rfl | rfl <;> kernel_rfl
  by_cases hr : r = 0
  · refine ⟨.tuple [x, .list [x]], st1, hx.2, ?_, D1⟩
    unfold T2e mIf mTest mBin
    rw [hd, bok, mD, bok, he, decide_eq_true hr]
    rfl
  · refine ⟨x, st1, hx.1, ?_, D1⟩
    unfold T2e mIf mTest mBin
    rw [hd, bok, mD, bok, he, decide_eq_false hr]
    rfl
theorem tb {ns : List Int} {tt : U} {x3 x4 x5 x6 x7 x8 : Option U} {st : Sto} {b : Int} (D : DeckAt st b) (hb : b ≤ 90000) : ∃ y2 y3 y4 y5 y6 y7 y8 st', TB (X9 ns (some tt) x3 x4 x5 x6 x7 x8) st = .nx (X9 ns y2 y3 y4 y5 y6 y7 y8) st' ∧ DeckAt st' (b + 3) := by
  obtain ⟨x, st1, hx, e1, D1⟩ := t1 (ns := ns) (x2 := some tt) (x3 := x3) (x4 := x4) (x5 := x5) (x6 := x6) (x7 := x7) (x8 := x8) D (by omega)
  obtain ⟨v, st2, hv, e2, D2⟩ := t2 (ns := ns) (x2 := some tt) (x4 := x4) (x5 := x5) (x6 := x6) (x7 := x7) (x8 := x8) D1 (by omega) hx
  have hv' := hv
  unfold okV at hv'
  simp only [Bool.and_eq_true] at hv'
  obtain ⟨y5, y6, y7, y8, e4⟩ := wf_ok (ns := ns) (tt := tt) (x5 := x5) (x6 := x6) (x7 := x7) (x8 := x8) (st := st2) hv'.1.1.1
  obtain ⟨z5, z6, z7, z8, e5⟩ := cf_ok (ns := ns) (tt := tt) (x5 := y5) (x6 := y6) (x7 := y7) (x8 := y8) (st := st2) hv
  refine ⟨some tt, some (.d v), some (.d (.str v.shown)), z5, z6, z7, z8, st2, ?_, by rw [Int.add_assoc] at D2; exact D2⟩
  unfold TB
  rw [seq_nx (e := X9 ns (some tt) (some (.d x)) x4 x5 x6 x7 x8) (s := st1)]
  · rw [seq_nx (e := X9 ns (some tt) (some (.d v)) x4 x5 x6 x7 x8) (s := st2)]
    · rw [seq_nx (e := E9 ns tt v x5 x6 x7 x8) (s := st2)]
      · rw [seq_nx e4, seq_nx e5]
        rfl
      · unfold mSet mC
        rw [mCons, mV (i := 3) (u := .d v) rfl, bok, mNil, bok, bok, rep hv'.1.1.1]
        rfl
    · rw [mSet, e2]; rfl
  · rw [mSet, e1]; rfl
theorem tbs {ns : List Int} : ∀ {us : List U} {x2 x3 x4 x5 x6 x7 x8 : Option U} {st : Sto} {b : Int}, DeckAt st b → b + 3 * us.length ≤ 90000 → ∃ y2 y3 y4 y5 y6 y7 y8 st', forL0 (gN 2) TB us (X9 ns x2 x3 x4 x5 x6 x7 x8) st = .nx (X9 ns y2 y3 y4 y5 y6 y7 y8) st'
  | [], x2, x3, x4, x5, x6, x7, x8, st, b, D, hb => ⟨x2, x3, x4, x5, x6, x7, x8, st, rfl⟩
  | u :: r, x2, x3, x4, x5, x6, x7, x8, st, b, D, hb => by
    rw [List.length_cons] at hb
    obtain ⟨y2, y3, y4, y5, y6, y7, y8, st1, e, D1⟩ := tb (ns := ns) (tt := u) (x3 := x3) (x4 := x4) (x5 := x5) (x6 := x6) (x7 := x7) (x8 := x8) D (by omega)
    obtain ⟨z2, z3, z4, z5, z6, z7, z8, st2, e2⟩ := tbs (ns := ns) (us := r) (x2 := y2) (x3 := y3) (x4 := y4) (x5 := y5) (x6 := y6) (x7 := y7) (x8 := y8) D1 (by omega)
    refine ⟨z2, z3, z4, z5, z6, z7, z8, st2, ?_⟩
    rw [forL0]
    show (match TB (X9 ns (some u) x3 x4 x5 x6 x7 x8) st with
      | .nx e s => forL0 (gN 2) TB r e s
      | .ct e s => forL0 (gN 2) TB r e s
      | .bk e s => .nx e s
      | o => o) = _
    rw [e]
    exact e2
theorem law_true (ns : List Int) (hn : ns.length ≤ 63) : Dd.TrueAt m_law ns := by
  obtain ⟨st, e, D⟩ := deck_ok ns hn
  obtain ⟨y2, y3, y4, y5, y6, y7, y8, st', e2⟩ := tbs (ns := ns) (us := [.d (.int 0), .d (.int 1), .d (.int 2), .d (.int 3)]) (x2 := none) (x3 := none) (x4 := none) (x5 := none) (x6 := none) (x7 := none) (x8 := none) D (by decide)
  refine ⟨st', ?_⟩
  show finF (b_law [some (.s ns), none, none, none, none, none, none, none, none] []) = _
  rw [law_split]
  refine (congrArg finF (seq_nx (e := X9 ns none none none none none none none) (s := st) ?_)).trans ?_
  · rw [mSet, callS (us := [.s ns]) (st' := []), e]
    · rfl
    · rfl
  refine (congrArg finF (seq_nx (e := X9 ns y2 y3 y4 y5 y6 y7 y8) (s := st') ?_)).trans ?_
  · rw [mFor_eq (st1 := st) (us := [.d (.int 0), .d (.int 1), .d (.int 2), .d (.int 3)])]
    · exact e2
    · rfl
  · rfl
end G

set_option Elab.async false
set_option linter.all false
set_option maxRecDepth 100000
set_option maxHeartbeats 0
namespace Hd
open PySem PySem.Spec PyProof.Rows L2 Dd G
def d_law_deck : He.DefD := ⟨("_law_deck", none), "_law_deck", "_law_deck", defArgs (top 13), defBody (top 13), defScope (top 13), [], []⟩
def d_law_draw : He.DefD := ⟨("_law_draw", none), "_law_draw", "_law_draw", defArgs (top 14), defBody (top 14), defScope (top 14), [], []⟩
def d_law_pick : He.DefD := ⟨("_law_pick", none), "_law_pick", "_law_pick", defArgs (top 15), defBody (top 15), defScope (top 15), [], []⟩
def d_law_odd : He.DefD := ⟨("_law_odd", none), "_law_odd", "_law_odd", defArgs (top 16), defBody (top 16), defScope (top 16), [], []⟩
def d_law_made : He.DefD := ⟨("_law_made", none), "_law_made", "_law_made", defArgs (top 17), defBody (top 17), defScope (top 17), [], []⟩
def d_law_classes : He.DefD := ⟨("_law_classes", none), "_law_classes", "_law_classes", defArgs (top 18), defBody (top 18), defScope (top 18), [], []⟩
def d_law_caught : He.DefD := ⟨("_law_caught", none), "_law_caught", "_law_caught", defArgs (top 19), defBody (top 19), defScope (top 19), [], []⟩
def d_law : He.DefD := ⟨("law", none), "law", "law", defArgs (top 20), defBody (top 20), defScope (top 20), [], []⟩
def i_BadNumber : He.DefD := ⟨("BadNumber", some "__init__"), "__init__", "BadNumber.__init__", defArgs (cdef (top 5)), defBody (cdef (top 5)), defScope (cdef (top 5)), [], []⟩
def i_BadNumbers : He.DefD := ⟨("BadNumbers", some "__init__"), "__init__", "BadNumbers.__init__", defArgs (cdef (top 8)), defBody (cdef (top 8)), defScope (cdef (top 8)), [], []⟩
def i_BadPoly : He.DefD := ⟨("BadPoly", some "__init__"), "__init__", "BadPoly.__init__", defArgs (cdef (top 6)), defBody (cdef (top 6)), defScope (cdef (top 6)), [], []⟩
def i_BadPrime : He.DefD := ⟨("BadPrime", some "__init__"), "__init__", "BadPrime.__init__", defArgs (cdef (top 7)), defBody (cdef (top 7)), defScope (cdef (top 7)), [], []⟩
def i_BadRow : He.DefD := ⟨("BadRow", some "__init__"), "__init__", "BadRow.__init__", defArgs (cdef (top 4)), defBody (cdef (top 4)), defScope (cdef (top 4)), [], []⟩
def i_BadTable : He.DefD := ⟨("BadTable", some "__init__"), "__init__", "BadTable.__init__", defArgs (cdef (top 2)), defBody (cdef (top 2)), defScope (cdef (top 2)), [], []⟩
def i_BadText : He.DefD := ⟨("BadText", some "__init__"), "__init__", "BadText.__init__", defArgs (cdef (top 10)), defBody (cdef (top 10)), defScope (cdef (top 10)), [], []⟩
def i_BadWord : He.DefD := ⟨("BadWord", some "__init__"), "__init__", "BadWord.__init__", defArgs (cdef (top 9)), defBody (cdef (top 9)), defScope (cdef (top 9)), [], []⟩
def i_Lost : He.DefD := ⟨("Lost", some "__init__"), "__init__", "Lost.__init__", defArgs (cdef (top 11)), defBody (cdef (top 11)), defScope (cdef (top 11)), [], []⟩
def i_OtherTable : He.DefD := ⟨("OtherTable", some "__init__"), "__init__", "OtherTable.__init__", defArgs (cdef (top 3)), defBody (cdef (top 3)), defScope (cdef (top 3)), [], []⟩
def fn : List He.DefD := [d_law_deck, d_law_draw, d_law_pick, d_law_odd, d_law_made, d_law_classes, d_law_caught, d_law, i_BadNumber, i_BadNumbers, i_BadPoly, i_BadPrime, i_BadRow, i_BadTable, i_BadText, i_BadWord, i_Lost, i_OtherTable]
def fa : List He.Fa := [.glo "_law_deck", .glo "_law_draw", .glo "_law_pick", .glo "_law_odd", .glo "_law_made", .glo "_law_classes", .glo "_law_caught", .glo "law", .glo "BadNumber", .glo "BadNumbers", .glo "BadPoly", .glo "BadPrime", .glo "BadRow", .glo "BadTable", .glo "BadText", .glo "BadWord", .glo "Lost", .glo "OtherTable", .glo "TableError", .free "Exception", .free "LookupError", .free "ValueError", .free "abs", .free "int", .free "isinstance", .free "len", .free "list", .free "max", .free "range", .free "repr", .free "str", .free "tuple"]
def et_BadTable : List (Str × Bool) := [("BadNumber", false), ("BadNumbers", false), ("BadPoly", false), ("BadPrime", false), ("BadRow", false), ("BadTable", true), ("BadText", false), ("BadWord", false), ("Lost", false), ("OtherTable", false)]
def et_BadText : List (Str × Bool) := [("BadNumber", false), ("BadNumbers", false), ("BadPoly", false), ("BadPrime", false), ("BadRow", false), ("BadTable", false), ("BadText", true), ("BadWord", false), ("Lost", false), ("OtherTable", false)]
def et_Lost : List (Str × Bool) := [("BadNumber", false), ("BadNumbers", false), ("BadPoly", false), ("BadPrime", false), ("BadRow", false), ("BadTable", false), ("BadText", false), ("BadWord", false), ("Lost", true), ("OtherTable", false)]
def et_TableError : List (Str × Bool) := [("BadNumber", true), ("BadNumbers", true), ("BadPoly", true), ("BadPrime", true), ("BadRow", true), ("BadTable", true), ("BadText", true), ("BadWord", true), ("Lost", true), ("OtherTable", true)]
def ex (K : PySem.W.Frag) : Bool := excB K xtab && (isB K (.ref (He.ga K "BadNumber")) tb_BadNumber && (isB K (.ref (He.ga K "BadNumbers")) tb_BadNumbers && (isB K (.ref (He.ga K "BadPoly")) tb_BadPoly && (isB K (.ref (He.ga K "BadPrime")) tb_BadPrime && (isB K (.ref (He.ga K "BadRow")) tb_BadRow && (isB K (.ref (He.ga K "BadTable")) tb_BadTable && (isB K (.ref (He.ga K "BadText")) tb_BadText && (isB K (.ref (He.ga K "BadWord")) tb_BadWord && (isB K (.type "Exception") tb_Exception && (isB K (.type "LookupError") tb_LookupError && (isB K (.ref (He.ga K "Lost")) tb_Lost && (isB K (.ref (He.ga K "OtherTable")) tb_OtherTable && (isB K (.ref (He.ga K "TableError")) tb_TableError && (isB K (.type "ValueError") tb_ValueError && (exB K "BadTable" et_BadTable && (exB K "BadText" et_BadText && (exB K "Lost" et_Lost && (exB K "TableError" et_TableError))))))))))))))))))
abbrev R : PySem.W.OpenRow := PySem.W.OpenLaw.row PySem.Challenge.rw_fewfolds_k00_errors
abbrev hk : PySem.W.Hook := hookE 5 fa fn ex
def ob (s : PySem.W.SharedT) : AlE := obsE 5 fa fn ex (HandSHeadRun.getT s)
theorem ob_eq (s : PySem.W.SharedT) : ob s = hk.obs s.abs := obsE_eq (HandSHeadRun.getT_eq s)
theorem run (w : World) : HandSHeadRun.RunEq R (PySem.W.view R.prog [20]) hk ob 20000 ((["TableError", "BadTable", "OtherTable", "BadRow", "BadNumber", "BadPoly", "BadPrime", "BadNumbers", "BadWord", "BadText", "Lost", "_law_deck", "_law_draw", "_law_pick", "_law_odd", "_law_made", "_law_classes", "_law_caught"] : List Str)) w := by
  intro os
  kernel_rfl
theorem sci_BadNumber : FnScope ["self", "thing"] ["self", "thing"] (defScope (cdef (top 5))) := ⟨rfl, rfl, rfl, by decide +kernel, rfl, by decide +kernel, by decide +kernel⟩
theorem sci_BadNumbers : FnScope ["self", "thing"] ["self", "thing"] (defScope (cdef (top 8))) := ⟨rfl, rfl, rfl, by decide +kernel, rfl, by decide +kernel, by decide +kernel⟩
theorem sci_BadPoly : FnScope ["self", "thing"] ["self", "thing"] (defScope (cdef (top 6))) := ⟨rfl, rfl, rfl, by decide +kernel, rfl, by decide +kernel, by decide +kernel⟩
theorem sci_BadPrime : FnScope ["self", "thing"] ["self", "thing"] (defScope (cdef (top 7))) := ⟨rfl, rfl, rfl, by decide +kernel, rfl, by decide +kernel, by decide +kernel⟩
theorem sci_BadRow : FnScope ["self", "thing"] ["self", "thing"] (defScope (cdef (top 4))) := ⟨rfl, rfl, rfl, by decide +kernel, rfl, by decide +kernel, by decide +kernel⟩
theorem sci_BadTable : FnScope ["self", "thing"] ["self", "thing"] (defScope (cdef (top 2))) := ⟨rfl, rfl, rfl, by decide +kernel, rfl, by decide +kernel, by decide +kernel⟩
theorem sci_BadText : FnScope ["self", "at"] ["self", "at"] (defScope (cdef (top 10))) := ⟨rfl, rfl, rfl, by decide +kernel, rfl, by decide +kernel, by decide +kernel⟩
theorem sci_BadWord : FnScope ["self", "thing"] ["self", "thing"] (defScope (cdef (top 9))) := ⟨rfl, rfl, rfl, by decide +kernel, rfl, by decide +kernel, by decide +kernel⟩
theorem sci_Lost : FnScope ["self", "row"] ["self", "row"] (defScope (cdef (top 11))) := ⟨rfl, rfl, rfl, by decide +kernel, rfl, by decide +kernel, by decide +kernel⟩
theorem sci_OtherTable : FnScope ["self", "thing"] ["self", "thing"] (defScope (cdef (top 3))) := ⟨rfl, rfl, rfl, by decide +kernel, rfl, by decide +kernel, by decide +kernel⟩
section
variable {P : Program} {w : World} {K : PySem.W.Frag} {mg : Str → Option Value} {h base : Heap}
theorem tf (X : K.In h) (N : h.Ns mainGlobals mg) (c : He.SaysD fa fn K) (hs : ∃ o, K.lookup sysModules = some o) (hx : ex K = true) (B : K.In base) : Tf P w K mg base := by
  obtain ⟨e0, r0⟩ := Bool.and_eq_true_iff.mp hx
  obtain ⟨e1, r1⟩ := Bool.and_eq_true_iff.mp r0
  obtain ⟨e2, r2⟩ := Bool.and_eq_true_iff.mp r1
  obtain ⟨e3, r3⟩ := Bool.and_eq_true_iff.mp r2
  obtain ⟨e4, r4⟩ := Bool.and_eq_true_iff.mp r3
  obtain ⟨e5, r5⟩ := Bool.and_eq_true_iff.mp r4
  obtain ⟨e6, r6⟩ := Bool.and_eq_true_iff.mp r5
  obtain ⟨e7, r7⟩ := Bool.and_eq_true_iff.mp r6
  obtain ⟨e8, r8⟩ := Bool.and_eq_true_iff.mp r7
  obtain ⟨e9, r9⟩ := Bool.and_eq_true_iff.mp r8
  obtain ⟨e10, r10⟩ := Bool.and_eq_true_iff.mp r9
  obtain ⟨e11, r11⟩ := Bool.and_eq_true_iff.mp r10
  obtain ⟨e12, r12⟩ := Bool.and_eq_true_iff.mp r11
  obtain ⟨e13, r13⟩ := Bool.and_eq_true_iff.mp r12
  obtain ⟨e14, r14⟩ := Bool.and_eq_true_iff.mp r13
  obtain ⟨e15, r15⟩ := Bool.and_eq_true_iff.mp r14
  obtain ⟨e16, r16⟩ := Bool.and_eq_true_iff.mp r15
  obtain ⟨e17, r17⟩ := Bool.and_eq_true_iff.mp r16
  have e18 := r17
  have xall : XcAll K xtab := excB_all e0
  refine {
    sys := hs.elim fun o e => ⟨o, B _ _ e⟩,
    F_law_deck := (c.def_ 0 (d := d_law_deck) rfl).elim fun fd F => ⟨_, fd, F, (He.glo_ok X N (c.fact 0 (f := .glo "_law_deck") rfl))⟩,
    F_law_draw := (c.def_ 1 (d := d_law_draw) rfl).elim fun fd F => ⟨_, fd, F, (He.glo_ok X N (c.fact 1 (f := .glo "_law_draw") rfl))⟩,
    F_law_pick := (c.def_ 2 (d := d_law_pick) rfl).elim fun fd F => ⟨_, fd, F, (He.glo_ok X N (c.fact 2 (f := .glo "_law_pick") rfl))⟩,
    F_law_odd := (c.def_ 3 (d := d_law_odd) rfl).elim fun fd F => ⟨_, fd, F, (He.glo_ok X N (c.fact 3 (f := .glo "_law_odd") rfl))⟩,
    F_law_made := (c.def_ 4 (d := d_law_made) rfl).elim fun fd F => ⟨_, fd, F, (He.glo_ok X N (c.fact 4 (f := .glo "_law_made") rfl))⟩,
    F_law_classes := (c.def_ 5 (d := d_law_classes) rfl).elim fun fd F => ⟨_, fd, F, (He.glo_ok X N (c.fact 5 (f := .glo "_law_classes") rfl))⟩,
    F_law_caught := (c.def_ 6 (d := d_law_caught) rfl).elim fun fd F => ⟨_, fd, F, (He.glo_ok X N (c.fact 6 (f := .glo "_law_caught") rfl))⟩,
    F_law := (c.def_ 7 (d := d_law) rfl).elim fun fd F => ⟨_, fd, F, (He.glo_ok X N (c.fact 7 (f := .glo "law") rfl))⟩,
    b_Exception := (He.free_ok X N (c.fact 19 (f := .free "Exception") rfl)),
    b_LookupError := (He.free_ok X N (c.fact 20 (f := .free "LookupError") rfl)),
    b_ValueError := (He.free_ok X N (c.fact 21 (f := .free "ValueError") rfl)),
    b_abs := (He.free_ok X N (c.fact 22 (f := .free "abs") rfl)),
    b_int := (He.free_ok X N (c.fact 23 (f := .free "int") rfl)),
    b_isinstance := (He.free_ok X N (c.fact 24 (f := .free "isinstance") rfl)),
    b_len := (He.free_ok X N (c.fact 25 (f := .free "len") rfl)),
    b_list := (He.free_ok X N (c.fact 26 (f := .free "list") rfl)),
    b_max := (He.free_ok X N (c.fact 27 (f := .free "max") rfl)),
    b_range := (He.free_ok X N (c.fact 28 (f := .free "range") rfl)),
    b_repr := (He.free_ok X N (c.fact 29 (f := .free "repr") rfl)),
    b_str := (He.free_ok X N (c.fact 30 (f := .free "str") rfl)),
    b_tuple := (He.free_ok X N (c.fact 31 (f := .free "tuple") rfl)),
    m_BadNumber := (He.glo_ok X N (c.fact 8 (f := .glo "BadNumber") rfl)),
    m_BadNumbers := (He.glo_ok X N (c.fact 9 (f := .glo "BadNumbers") rfl)),
    m_BadPoly := (He.glo_ok X N (c.fact 10 (f := .glo "BadPoly") rfl)),
    m_BadPrime := (He.glo_ok X N (c.fact 11 (f := .glo "BadPrime") rfl)),
    m_BadRow := (He.glo_ok X N (c.fact 12 (f := .glo "BadRow") rfl)),
    m_BadTable := (He.glo_ok X N (c.fact 13 (f := .glo "BadTable") rfl)),
    m_BadText := (He.glo_ok X N (c.fact 14 (f := .glo "BadText") rfl)),
    m_BadWord := (He.glo_ok X N (c.fact 15 (f := .glo "BadWord") rfl)),
    m_Lost := (He.glo_ok X N (c.fact 16 (f := .glo "Lost") rfl)),
    m_OtherTable := (He.glo_ok X N (c.fact 17 (f := .glo "OtherTable") rfl)),
    m_TableError := (He.glo_ok X N (c.fact 18 (f := .glo "TableError") rfl)),
    x_BadNumber := (c.def_ 8 (d := i_BadNumber) rfl).elim fun fd F => xcF_of (He.glo_ok X N (c.fact 8 (f := .glo "BadNumber") rfl)) e0 (by decide) F sci_BadNumber (by rfl) (by rfl) (by decide) (by decide) (fun _ _ _ _ _ _ us hl => match us, hl with | [_, _], _ => rfl) (fun _ _ _ _ _ _ _ _ => rfl),
    x_BadNumbers := (c.def_ 9 (d := i_BadNumbers) rfl).elim fun fd F => xcF_of (He.glo_ok X N (c.fact 9 (f := .glo "BadNumbers") rfl)) e0 (by decide) F sci_BadNumbers (by rfl) (by rfl) (by decide) (by decide) (fun _ _ _ _ _ _ us hl => match us, hl with | [_, _], _ => rfl) (fun _ _ _ _ _ _ _ _ => rfl),
    x_BadPoly := (c.def_ 10 (d := i_BadPoly) rfl).elim fun fd F => xcF_of (He.glo_ok X N (c.fact 10 (f := .glo "BadPoly") rfl)) e0 (by decide) F sci_BadPoly (by rfl) (by rfl) (by decide) (by decide) (fun _ _ _ _ _ _ us hl => match us, hl with | [_, _], _ => rfl) (fun _ _ _ _ _ _ _ _ => rfl),
    x_BadPrime := (c.def_ 11 (d := i_BadPrime) rfl).elim fun fd F => xcF_of (He.glo_ok X N (c.fact 11 (f := .glo "BadPrime") rfl)) e0 (by decide) F sci_BadPrime (by rfl) (by rfl) (by decide) (by decide) (fun _ _ _ _ _ _ us hl => match us, hl with | [_, _], _ => rfl) (fun _ _ _ _ _ _ _ _ => rfl),
    x_BadRow := (c.def_ 12 (d := i_BadRow) rfl).elim fun fd F => xcF_of (He.glo_ok X N (c.fact 12 (f := .glo "BadRow") rfl)) e0 (by decide) F sci_BadRow (by rfl) (by rfl) (by decide) (by decide) (fun _ _ _ _ _ _ us hl => match us, hl with | [_, _], _ => rfl) (fun _ _ _ _ _ _ _ _ => rfl),
    x_BadTable := (c.def_ 13 (d := i_BadTable) rfl).elim fun fd F => xcF_of (He.glo_ok X N (c.fact 13 (f := .glo "BadTable") rfl)) e0 (by decide) F sci_BadTable (by rfl) (by rfl) (by decide) (by decide) (fun _ _ _ _ _ _ us hl => match us, hl with | [_, _], _ => rfl) (fun _ _ _ _ _ _ _ _ => rfl),
    x_BadText := (c.def_ 14 (d := i_BadText) rfl).elim fun fd F => xcF_of (He.glo_ok X N (c.fact 14 (f := .glo "BadText") rfl)) e0 (by decide) F sci_BadText (by rfl) (by rfl) (by decide) (by decide) (fun _ _ _ _ _ _ us hl => match us, hl with | [_, _], _ => rfl) (fun _ _ _ _ _ _ _ _ => rfl),
    x_BadWord := (c.def_ 15 (d := i_BadWord) rfl).elim fun fd F => xcF_of (He.glo_ok X N (c.fact 15 (f := .glo "BadWord") rfl)) e0 (by decide) F sci_BadWord (by rfl) (by rfl) (by decide) (by decide) (fun _ _ _ _ _ _ us hl => match us, hl with | [_, _], _ => rfl) (fun _ _ _ _ _ _ _ _ => rfl),
    x_Lost := (c.def_ 16 (d := i_Lost) rfl).elim fun fd F => xcF_of (He.glo_ok X N (c.fact 16 (f := .glo "Lost") rfl)) e0 (by decide) F sci_Lost (by rfl) (by rfl) (by decide) (by decide) (fun _ _ _ _ _ _ us hl => match us, hl with | [_, _], _ => rfl) (fun _ _ _ _ _ _ _ _ => rfl),
    x_OtherTable := (c.def_ 17 (d := i_OtherTable) rfl).elim fun fd F => xcF_of (He.glo_ok X N (c.fact 17 (f := .glo "OtherTable") rfl)) e0 (by decide) F sci_OtherTable (by rfl) (by rfl) (by decide) (by decide) (fun _ _ _ _ _ _ us hl => match us, hl with | [_, _], _ => rfl) (fun _ _ _ _ _ _ _ _ => rfl),
    xall := xall,
    i_BadNumber := isB_tab xall (by decide) e1,
    i_BadNumbers := isB_tab xall (by decide) e2,
    i_BadPoly := isB_tab xall (by decide) e3,
    i_BadPrime := isB_tab xall (by decide) e4,
    i_BadRow := isB_tab xall (by decide) e5,
    i_BadTable := isB_tab xall (by decide) e6,
    i_BadText := isB_tab xall (by decide) e7,
    i_BadWord := isB_tab xall (by decide) e8,
    i_Exception := isB_tab xall (by decide) e9,
    i_LookupError := isB_tab xall (by decide) e10,
    i_Lost := isB_tab xall (by decide) e11,
    i_OtherTable := isB_tab xall (by decide) e12,
    i_TableError := isB_tab xall (by decide) e13,
    i_ValueError := isB_tab xall (by decide) e14,
    e_BadTable := exB_ok e15,
    e_BadText := exB_ok e16,
    e_Lost := exB_ok e17,
    e_TableError := exB_ok e18 }
end
end Hd
open PySem PySem.W PySem.Calls PyProof.Rows
theorem PySem.Challenge.cw_fewfolds_k00_errors_holds : PySem.Challenge.rw_fewfolds_k00_errors.Holds := by
  w_on; o_law
  refine HandSHeadRun.head_any (r := OpenLaw.row PySem.Challenge.rw_fewfolds_k00_errors) (q := view (OpenLaw.row PySem.Challenge.rw_fewfolds_k00_errors).prog [20]) (H := Hd.hk) (ob := Hd.ob) (M := 20000) (loose := (["TableError", "BadTable", "OtherTable", "BadRow", "BadNumber", "BadPoly", "BadPrime", "BadNumbers", "BadWord", "BadText", "Lost", "_law_deck", "_law_draw", "_law_pick", "_law_odd", "_law_made", "_law_classes", "_law_caught"] : List Str)) (d := HandSHeadRun.topDef (OpenLaw.row PySem.Challenge.rw_fewfolds_k00_errors).prog 20) (kwd := []) Hd.ob_eq
    (by kernel_rfl) (fun s => by kernel_rfl) Hd.run (by kernel_rfl) (by kernel_rfl) (by kernel_rfl) (by rfl) (by first | assumption | decide +kernel) (by decide +kernel) ⟨rfl, rfl, rfl, rfl, rfl, by decide +kernel⟩ ?hw ?hc
  case hw => w_witness2
  case hc =>
    refine Dd.walk_ofG (l := PySem.Challenge.rw_fewfolds_k00_errors) (n := 63) (k := 4) G.m_law rfl (by decide) (by kernel_rfl) ⟨rfl, by decide, by decide⟩ ?F (fun ns hn => G.law_true ns hn)
    intro w mg fa h Y N hmg
    obtain ⟨K, KX, c, hs, hx⟩ := Y
    have e : (HandSHeadRun.topDef (OpenLaw.row PySem.Challenge.rw_fewfolds_k00_errors).prog 20).name = ("law" : PySem.Str) := by kernel_rfl
    rw [e]
    exact ⟨K, KX, fun base B _ => G.fg_law (Hd.tf KX N c hs hx B)⟩
