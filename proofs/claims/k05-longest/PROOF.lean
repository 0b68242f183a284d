import PyProof.Rows.All
import Wide.All
import OpenK.AllK
import Wide.FinOn
import HandS.ForMost
import HandS.Exc
import HandS.ExcOwn
import HandS.TryOnly
import HandS.WordsExc
import HandS.RaiseOp
import HandS.IsInst
import HandS.Ends
import HandS.Property
import HandS.More
import HandS.DictComp
import HandS.Style
import PySem.Challenge.RW_keptroutes_k05_longest_prefixes
set_option Elab.async false
set_option linter.all false
set_option maxRecDepth 100000
set_option maxHeartbeats 4000000
/-! DL: data in place of heaps. First: a def's promise where it is known that nothing is being shown (repr's guards are empty). -/
namespace DL
open PySem L2 PySem.Spec PyProof.Rows
/-- what is known of the place: nothing is being shown, sys.modules stands -/
def Tp (A : Around) (base : Heap) : Prop := A.guards = some [] ∧ ∃ o, base.get? sysModules = some o
structure FnG (P : Program) (wd : World) (K : PySem.W.Frag) (mg : Str → Option Value) (base : Heap) (k : Nat) (f : Addr) (fd : FuncData) (ps : List Str) (sp : Sp) : Prop where
  len : ∀ vs H Q E, sp vs H Q E → vs.length = ps.length
  go : ∀ {A : Around} {outer : List PySem.Env} {s : Shared} {H : Hp} {args : Args} {us : List Value} {vs : List V} {Q : VK} {E : XK}, Room k A ∧ Tp A base → Env0 P wd K mg base A outer s H → BindsTo s fd args (ps.zip us) → Vals vs us → sp vs H Q E →
    codeAny (model P wd) A (.call (.ref f) args) (CR (L2.CX P wd) outer P wd H s Q E) s
section
variable {P : Program} {wd : World} {K : PySem.W.Frag} {mg : Str → Option Value} {base : Heap} {k : Nat} {f : Addr} {fd : FuncData} {ps : List Str} {sp : Sp}
theorem FnG.imp {sp' : Sp} (F : FnG P wd K mg base k f fd ps sp) (h : ∀ vs H Q E, sp' vs H Q E → sp vs H Q E) : FnG P wd K mg base k f fd ps sp' :=
  ⟨fun _ _ _ _ q => F.len _ _ _ _ (h _ _ _ _ q), fun hr he hb hv hs => F.go hr he hb hv (h _ _ _ _ hs)⟩
theorem FnG.mono {j : Nat} (F : FnG P wd K mg base j f fd ps sp) (h : j ≤ k) : FnG P wd K mg base k f fd ps sp := ⟨F.len, fun hr => F.go ⟨hr.1.mono h, hr.2⟩⟩
/-- a def of the text keeps its promise, by its body -/
theorem FnG.mk' {x qual : Str} {st : Stmt} {N : List Str} (F : Fun K x qual st f fd) (S : FnScope N ps (defScope st)) (len : ∀ vs H Q E, sp vs H Q E → vs.length = ps.length)
    (body : ∀ (cdv : Value) (A : Around) (outer : List PySem.Env) (s : Shared) (H : Hp) (vs : List V) (Q : VK) (E : XK), Room k (A.deeper (envOfC qual (defScope st) s.heap.objs.size f cdv)) ∧ Tp (A.deeper (envOfC qual (defScope st) s.heap.objs.size f cdv)) base → sp vs H Q E →
      ∃ t, PSs (cxOf (L2.CX P wd) P wd K mg base N qual (defScope st) f cdv A outer s H E) (defBody st) t ∧ t { nx := fun _ H' => Q .non H', rt := Q } (L2.start N vs) H) : FnG P wd K mg base (k + 1) f fd ps sp := by
  obtain ⟨oc, od, kV, doc, pm, an, cdv, ct, osl, rfl, look, code⟩ := F.ex
  refine ⟨len, fun {A outer s H args us vs Q E} room env bound rel ask => ?_⟩
  have inK : K.In s.heap := env.mod.kin.keeps fun b o e => (env.bs b o e).1
  have noLim : s.heap.NoLimit := env.mod.nolimit.keeps fun b o e => (env.bs b o e).1
  have kinds : ∀ y ∈ ps.zip us, (defScope st).names.lookup y.1 = some .local ∨ ((defScope st).names.lookup y.1 = some .cell ∧ ((cellsFrom (s.heap.objs.size + 1) (defScope st).names []).lookup y.1).isSome = true) := by
    rintro ⟨n, v⟩ hy
    exact (S.par n (List.of_mem_zip hy).1).imp _root_.id fun q => ⟨q, PySem.W.cellsFrom_some _ _ _ (.inl q)⟩
  refine codeAny_call_function room.1.depth (inK _ _ look) rfl S.co S.gen rfl (PySem.W.codeRec_of inK code) (bound _ _ _ _ (wpAny_newFunctionEnv_cells S.kind kinds ?_))
  intro env' heq s1 inC
  subst heq
  refine ⟨noLim.keeps inC.toInCall.keep, codeAny_func ?_⟩
  obtain ⟨t, ht, hq⟩ := body cdv A outer s H vs Q E ⟨room.1.deeper _, room.2⟩ ask
  have J0 := inv_start (CX := L2.CX P wd) (qual := qual) (E := E) S room.1.hd env (len _ _ _ _ ask) rel inC
  refine wpAny_mono (ht.run [] s1 _ H _ J0 hq) ?_ fun _ _ z => z
  intro fl s' hs
  match fl, hs with
  | .ret u, ⟨v, _, H', J, rv, q⟩ => exact ⟨v, H', J.os, J.bare, J.base, J.hok, rv, q⟩
  | .next, ⟨_, H', J, q⟩ => exact ⟨.non, H', J.os, J.bare, J.base, J.hok, rfl, q⟩
  | .brk, ⟨_, _, _, q⟩ => exact q.elim
  | .cont, ⟨_, _, _, q⟩ => exact q.elim
end
section
variable {X : Cx} {k : Nat} {f C : Addr} {fd : FuncData} {ps : List Str} {sp : Sp} {ds : List Value} {pins : List (Addr × Obj)} {σ : L2.St} {H : Hp} {s : Shared} {Q : VK} {us : List Value} {vs : List V} {E : L2.St → XK}
/-- a def is called with args, which bind its parameters to us -/
theorem call_g {Post : Result → Shared → Prop} (F : FnG X.prog X.w X.K X.mg X.base k f fd ps sp) (hr : Room k X.A ∧ Tp X.A X.base) (args : Args) (hb : BindsTo s fd args (ps.zip us)) (hx : PassesAt (L2.CX X.prog X.w) X σ (E σ)) (I : Inv X pins σ H s) (rel : Vals vs us) (h : sp vs H Q (E σ))
    (pe : ∀ e s', X.xe e s' → Post (.error e) s') (pr : ∀ u s', EP X pins σ Q u s' → Post (.ok (.ret u)) s') : codeAny (model X.prog X.w) X.A (.call (.ref f) args) Post s := by
  refine codeAny_mono (F.go hr I.env0 hb rel h) fun r s' hq => ?_
  match r, hq with
  | .error e, hq => exact pe e s' (hx pins H s e s' I hq)
  | .ok (.ret u), hq => exact pr u s' (I.after hq)
end
end DL
/-! A value of the program is a tree (D); mutable things are a slot's own (ow) or stand in a store. -/
namespace DL
open PySem L2

inductive D where
  | non | bl (b : Bool) | int (i : Int) | str (x : Str)
  | tup (xs : List D) | lst (xs : List D) | dct (kvs : List (Key × D)) | ins (C : String) (fs : List (Str × D))
  | ref (l : Nat) | scr (ns : List Int) | ty (n : String) | cls (n : String) | opq | tomb

/-- where the module's class of that name stands -/
def cA (K : PySem.W.Frag) (n : String) : Addr := match PySem.W.nsIn K mainGlobals (Str.ofString n) with
  | some (some (.ref C)) => C
  | _ => 0
abbrev Store := List D
/-- what stands: the frozen part M, where the store's things lie, the store, the heap -/
structure Wd where
  M : Hp
  ρ : Nat → Addr
  st : Store
  H : Hp

inductive Rep (K : PySem.W.Frag) (w : Wd) : V → D → Prop
  | non : Rep K w .non .non
  | bl {b : Bool} : Rep K w (.bl b) (.bl b)
  | int {i : Int} : Rep K w (.int i) (.int i)
  | str {x : Str} : Rep K w (.str x) (.str x)
  | tup {a : Addr} {vs : List V} {xs : List D} : SqT K w.M a vs → vs.length = xs.length → (∀ (i : Nat) (v : V) (x : D), vs[i]? = some v → xs[i]? = some x → Rep K w v x) → Rep K w (.ref a) (.tup xs)
  | lst {a : Addr} {vs : List V} {xs : List D} : w.M a = some (.lst vs) → vs.length = xs.length → (∀ (i : Nat) (v : V) (x : D), vs[i]? = some v → xs[i]? = some x → Rep K w v x) → Rep K w (.ref a) (.lst xs)
  | dct {a : Addr} {o : Obj} {vs : List (Key × V)} {xs : List (Key × D)} : w.M a = some (.frz o (.dK vs)) → vs.map (·.1) = xs.map (·.1) → (∀ (i : Nat) (v : Key × V) (x : Key × D), vs[i]? = some v → xs[i]? = some x → Rep K w v.2 x.2) → Rep K w (.ref a) (.dct xs)
  | ins {a dx : Addr} {C : String} {vs : List (Str × V)} {xs : List (Str × D)} : w.M a = some (.ins (cA K C) dx vs) → vs.map (·.1) = xs.map (·.1) → (∀ (i : Nat) (v : Str × V) (x : Str × D), vs[i]? = some v → xs[i]? = some x → Rep K w v.2 x.2) → Rep K w (.ref a) (.ins C xs)
  | ref {l : Nat} : l < w.st.length → Rep K w (.ref (w.ρ l)) (.ref l)
  | scr {a : Addr} {ns : List Int} : SqL K w.M a (ns.map V.int) → Rep K w (.ref a) (.scr ns)
  | ty {n : String} : Rep K w (.ty n) (.ty n)
  | cls {n : String} : Rep K w (.ref (cA K n)) (.cls n)
  | opq {a : Addr} : Rep K w (.ref a) .opq

/-- lists, alike by place -/
def RepL (K : PySem.W.Frag) (w : Wd) (vs : List V) (xs : List D) : Prop := vs.length = xs.length ∧ ∀ (i : Nat) (v : V) (x : D), vs[i]? = some v → xs[i]? = some x → Rep K w v x
def RepP {κ : Type} (K : PySem.W.Frag) (w : Wd) (vs : List (κ × V)) (xs : List (κ × D)) : Prop := vs.map (·.1) = xs.map (·.1) ∧ ∀ (i : Nat) (v : κ × V) (x : κ × D), vs[i]? = some v → xs[i]? = some x → Rep K w v.2 x.2

/-- what a mutable thing holds -/
def RO (K : PySem.W.Frag) (w : Wd) (o : HO) (d : D) : Prop := match d with
  | .lst xs => ∃ vs, o = .lst vs ∧ RepL K w vs xs
  | .dct xs => ∃ vs, o = .dK vs ∧ RepP K w vs xs
  | .ins C xs => ∃ dx vs, o = .ins (cA K C) dx vs ∧ RepP K w vs xs
  | _ => False

structure Ok (K : PySem.W.Frag) (w : Wd) : Prop where
  ex : ∀ a o, w.M a = some o → w.H a = some o
  sto : ∀ (l : Nat) (d : D), w.st[l]? = some d → ∃ o, w.H (w.ρ l) = some o ∧ (d = .tomb ∨ (w.M (w.ρ l) = none ∧ RO K w o d))
  inj : ∀ l m, l < w.st.length → m < w.st.length → w.ρ l = w.ρ m → l = m

theorem Ok.live {K : PySem.W.Frag} {w : Wd} (k : Ok K w) {l : Nat} {d : D} (h : w.st[l]? = some d) (hd : d ≠ .tomb) : ∃ o, w.H (w.ρ l) = some o ∧ w.M (w.ρ l) = none ∧ RO K w o d := by
  obtain ⟨o, a, b⟩ := k.sto l d h
  rcases b with b | b
  · exact absurd b hd
  · exact ⟨o, a, b.1, b.2⟩
structure Evo (w w' : Wd) : Prop where
  mono : ∀ a o, w.M a = some o → w'.M a = some o
  rho : ∀ l, l < w.st.length → w'.ρ l = w.ρ l
  le : w.st.length ≤ w'.st.length
  newM : ∀ a o, w'.M a = some o → w.M a = none → w.H a = none
  newR : ∀ l, w.st.length ≤ l → l < w'.st.length → w.H (w'.ρ l) = none
  keep : ∀ a o, w.H a = some o → w.M a = none → (∀ l, l < w.st.length → w.ρ l ≠ a) → w'.H a = some o

/-- what is told of data goes on being so -/
structure Ext (w w' : Wd) : Prop where
  mono : ∀ a o, w.M a = some o → w'.M a = some o
  rho : ∀ l, l < w.st.length → w'.ρ l = w.ρ l
  le : w.st.length ≤ w'.st.length
theorem Evo.ext {w w' : Wd} (e : Evo w w') : Ext w w' := ⟨e.mono, e.rho, e.le⟩
theorem Ext.refl (w : Wd) : Ext w w := ⟨fun _ _ h => h, fun _ _ => rfl, Nat.le_refl _⟩
theorem Ext.trans {w w' w'' : Wd} (a : Ext w w') (b : Ext w' w'') : Ext w w'' := ⟨fun x o h => b.mono x o (a.mono x o h), fun l h => (b.rho l (Nat.lt_of_lt_of_le h a.le)).trans (a.rho l h), Nat.le_trans a.le b.le⟩

section
variable {K : PySem.W.Frag} {w w' w'' : Wd}
theorem Evo.refl (w : Wd) : Evo w w := ⟨fun _ _ h => h, fun _ _ => rfl, Nat.le_refl _, fun a o h n => absurd (h.symm.trans n) (fun q => nomatch q), fun l h1 h2 => absurd (Nat.lt_of_lt_of_le h2 h1) (Nat.lt_irrefl _), fun _ _ h _ _ => h⟩
theorem some_of_ne {α : Type} {o : Option α} (h : o ≠ none) : ∃ x, o = some x := by cases o with | none => exact absurd rfl h | some x => exact ⟨x, rfl⟩
theorem Evo.dom (e : Evo w w') (k : Ok K w') {a : Addr} {o : HO} (h : w.H a = some o) : ∃ o', w'.H a = some o' := by
  cases m : w.M a with
  | some u => exact ⟨_, k.ex a _ (e.mono a _ m)⟩
  | none =>
    by_cases z : ∃ l, l < w.st.length ∧ w.ρ l = a
    · obtain ⟨l, hl, rfl⟩ := z
      have hl' := Nat.lt_of_lt_of_le hl e.le
      obtain ⟨u, hu, _⟩ := k.sto l w'.st[l] (List.getElem?_eq_getElem hl')
      rw [e.rho l hl] at hu
      exact ⟨u, hu⟩
    · exact ⟨o, e.keep a o h m fun l hl q => z ⟨l, hl, q⟩⟩
theorem Evo.dom0 (e : Evo w w') (k : Ok K w') {a : Addr} (h : w'.H a = none) : w.H a = none := by
  cases q : w.H a with
  | none => rfl
  | some o => obtain ⟨u, hu⟩ := e.dom k q; rw [hu] at h; cases h
theorem Evo.trans (a : Evo w w') (k : Ok K w') (b : Evo w' w'') : Evo w w'' where
  mono := fun x o h => b.mono x o (a.mono x o h)
  rho := fun l h => (b.rho l (Nat.lt_of_lt_of_le h a.le)).trans (a.rho l h)
  le := Nat.le_trans a.le b.le
  newM := fun x o h n => by
    cases q : w'.M x with
    | some u => exact a.newM x u q n
    | none => exact a.dom0 k (b.newM x o h q)
  newR := fun l h1 h2 => by
    by_cases q : l < w'.st.length
    · rw [b.rho l q]; exact a.newR l h1 q
    · exact a.dom0 k (b.newR l (Nat.le_of_not_lt q) h2)
  keep := fun x o h n nl => by
    have h1 := a.keep x o h n nl
    refine b.keep x o h1 ?_ fun l hl q => ?_
    · cases q : w'.M x with
      | none => rfl
      | some u => have z := a.newM x u q n; rw [h] at z; cases z
    · by_cases z : l < w.st.length
      · exact nl l z ((a.rho l z).symm.trans q)
      · have y := a.newR l (Nat.le_of_not_lt z) hl
        rw [q, h] at y; cases y

theorem Ext.sqT (e : Ext w w') {a : Addr} {vs : List V} (h : SqT K w.M a vs) : SqT K w'.M a vs := by
  rcases h with (h | ⟨o, h⟩) | h
  · exact .inl (.inl (e.mono _ _ h))
  · exact .inl (.inr ⟨o, e.mono _ _ h⟩)
  · exact .inr h
theorem Ext.sqL (e : Ext w w') {a : Addr} {vs : List V} (h : SqL K w.M a vs) : SqL K w'.M a vs := by
  rcases h with (h | ⟨o, h⟩) | h
  · exact .inl (.inl (e.mono _ _ h))
  · exact .inl (.inr ⟨o, e.mono _ _ h⟩)
  · exact .inr h
theorem Ok.sqT (k : Ok K w) {a : Addr} {vs : List V} (h : SqT K w.M a vs) : SqT K w.H a vs := by
  rcases h with (h | ⟨o, h⟩) | h
  · exact .inl (.inl (k.ex _ _ h))
  · exact .inl (.inr ⟨o, k.ex _ _ h⟩)
  · exact .inr h
theorem Ok.sqL (k : Ok K w) {a : Addr} {vs : List V} (h : SqL K w.M a vs) : SqL K w.H a vs := by
  rcases h with (h | ⟨o, h⟩) | h
  · exact .inl (.inl (k.ex _ _ h))
  · exact .inl (.inr ⟨o, k.ex _ _ h⟩)
  · exact .inr h
theorem Rep.ext (e : Ext w w') {v : V} {d : D} (r : Rep K w v d) : Rep K w' v d := by
  induction r with
  | non => exact .non
  | bl => exact .bl
  | int => exact .int
  | str => exact .str
  | tup h l _ ih => exact .tup (e.sqT h) l ih
  | lst h l _ ih => exact .lst (e.mono _ _ h) l ih
  | dct h l _ ih => exact .dct (e.mono _ _ h) l ih
  | ins h l _ ih => exact .ins (e.mono _ _ h) l ih
  | ref h => rw [← e.rho _ h]; exact .ref (Nat.lt_of_lt_of_le h e.le)
  | scr h => exact .scr (e.sqL h)
  | ty => exact .ty
  | cls => exact .cls
  | opq => exact .opq
theorem Rep.evo (e : Evo w w') {v : V} {d : D} (r : Rep K w v d) : Rep K w' v d := r.ext e.ext
theorem RepL.ext (e : Ext w w') {vs : List V} {xs : List D} (r : RepL K w vs xs) : RepL K w' vs xs := ⟨r.1, fun i v x a b => (r.2 i v x a b).ext e⟩
theorem RepL.evo (e : Evo w w') {vs : List V} {xs : List D} (r : RepL K w vs xs) : RepL K w' vs xs := r.ext e.ext
theorem RepP.ext {κ : Type} (e : Ext w w') {vs : List (κ × V)} {xs : List (κ × D)} (r : RepP K w vs xs) : RepP K w' vs xs := ⟨r.1, fun i v x a b => (r.2 i v x a b).ext e⟩
theorem RepP.evo {κ : Type} (e : Evo w w') {vs : List (κ × V)} {xs : List (κ × D)} (r : RepP K w vs xs) : RepP K w' vs xs := r.ext e.ext
theorem RO.ext (e : Ext w w') {o : HO} {d : D} (r : RO K w o d) : RO K w' o d := by
  cases d with
  | lst xs => obtain ⟨vs, z, r⟩ := r; exact ⟨vs, z, r.ext e⟩
  | dct xs => obtain ⟨vs, z, r⟩ := r; exact ⟨vs, z, r.ext e⟩
  | ins C xs => obtain ⟨dx, vs, z, r⟩ := r; exact ⟨dx, vs, z, r.ext e⟩
  | _ => exact r.elim
theorem RO.evo (e : Evo w w') {o : HO} {d : D} (r : RO K w o d) : RO K w' o d := r.ext e.ext

theorem RepL.nil : RepL K w [] [] := ⟨rfl, fun i v x h => by simp at h⟩
theorem RepL.cons {v : V} {x : D} {vs : List V} {xs : List D} (h : Rep K w v x) (t : RepL K w vs xs) : RepL K w (v :: vs) (x :: xs) := ⟨by simp [t.1], fun i a b p q => by
  cases i with
  | zero => simp at p q; subst p; subst q; exact h
  | succ i => simp at p q; exact t.2 i a b p q⟩
theorem RepL.inv {vs : List V} {x : D} {xs : List D} (h : RepL K w vs (x :: xs)) : ∃ v r, vs = v :: r ∧ Rep K w v x ∧ RepL K w r xs := by
  cases vs with
  | nil => simp [RepL] at h
  | cons v r => exact ⟨v, r, rfl, h.2 0 v x rfl rfl, by have := h.1; simpa using this, fun i a b p q => h.2 (i + 1) a b (by simpa using p) (by simpa using q)⟩
theorem RepL.inv0 {vs : List V} (h : RepL K w vs []) : vs = [] := List.length_eq_zero_iff.mp h.1
theorem RepL.append {vs us : List V} {xs ys : List D} (h : RepL K w vs xs) (t : RepL K w us ys) : RepL K w (vs ++ us) (xs ++ ys) := by
  induction xs generalizing vs with
  | nil => rw [h.inv0]; exact t
  | cons x xs ih => obtain ⟨v, r, rfl, a, b⟩ := h.inv; exact .cons a (ih b)
theorem RepL.get {vs : List V} {xs : List D} (h : RepL K w vs xs) {i : Nat} {x : D} (e : xs[i]? = some x) : ∃ v, vs[i]? = some v ∧ Rep K w v x := by
  have hl : i < vs.length := by rw [h.1]; exact (List.getElem?_eq_some_iff.mp e).1
  exact ⟨vs[i], List.getElem?_eq_getElem hl, h.2 i _ x (List.getElem?_eq_getElem hl) e⟩
theorem RepL.of_map {α : Type} {f : α → V} {g : α → D} (h : ∀ a, Rep K w (f a) (g a)) : ∀ l : List α, RepL K w (l.map f) (l.map g)
  | [] => .nil
  | a :: l => .cons (h a) (RepL.of_map h l)
theorem RepL.drop {vs : List V} {xs : List D} (h : RepL K w vs xs) (n : Nat) : RepL K w (vs.drop n) (xs.drop n) := ⟨by simp [h.1], fun i v x a b => h.2 (n + i) v x (by simpa using a) (by simpa using b)⟩
theorem RepL.take {vs : List V} {xs : List D} (h : RepL K w vs xs) (n : Nat) : RepL K w (vs.take n) (xs.take n) := ⟨by simp [h.1], fun i v x a b => by
  by_cases q : i < n
  · rw [List.getElem?_take_of_lt q] at a b; exact h.2 i v x a b
  · rw [List.getElem?_eq_none (by simp; omega)] at a; cases a⟩
theorem RepL.set {vs : List V} {xs : List D} (h : RepL K w vs xs) {v : V} {x : D} (r : Rep K w v x) (n : Nat) : RepL K w (vs.set n v) (xs.set n x) := ⟨by simp [h.1], fun i a b p q => by
  by_cases z : n = i
  · subst z
    have hl : n < vs.length := by have := (List.getElem?_eq_some_iff.mp p).1; simpa using this
    rw [List.getElem?_set_self hl] at p
    rw [List.getElem?_set_self (h.1 ▸ hl)] at q
    cases p; cases q; exact r
  · rw [List.getElem?_set_ne z] at p q; exact h.2 i a b p q⟩
theorem RepL.rev {vs : List V} {xs : List D} (h : RepL K w vs xs) : RepL K w vs.reverse xs.reverse := by
  induction xs generalizing vs with
  | nil => rw [h.inv0]; exact .nil
  | cons x xs ih => obtain ⟨v, r, rfl, a, b⟩ := h.inv; rw [List.reverse_cons, List.reverse_cons]; exact (ih b).append (.cons a .nil)

/-- what is read of a value: its top, by the heap as it stands -/
def Vw (K : PySem.W.Frag) (w : Wd) (v : V) (d : D) : Prop := match d with
  | .non => v = .non
  | .bl b => v = .bl b
  | .int i => v = .int i
  | .str x => v = .str x
  | .tup xs => ∃ a vs, v = .ref a ∧ SqT K w.H a vs ∧ RepL K w vs xs
  | .lst xs => ∃ a vs, v = .ref a ∧ w.H a = some (.lst vs) ∧ RepL K w vs xs
  | .dct xs => ∃ a vs, v = .ref a ∧ Rd w.H a (.dK vs) ∧ RepP K w vs xs
  | .ins C xs => ∃ a dx vs, v = .ref a ∧ w.H a = some (.ins (cA K C) dx vs) ∧ RepP K w vs xs
  | .scr ns => ∃ a, v = .ref a ∧ SqL K w.H a (ns.map V.int)
  | .ty n => v = .ty n
  | .cls n => v = .ref (cA K n)
  | .opq => ∃ a, v = .ref a
  | .tomb => ∃ a, v = .ref a
  | .ref l => v = .ref (w.ρ l) ∧ l < w.st.length
def deref (st : Store) (d : D) : D := match d with
  | .ref l => st[l]?.getD .non
  | d => d
theorem RO.vw {a : Addr} {o : HO} {d : D} (h : w.H a = some o) (r : RO K w o d) : Vw K w (.ref a) d := by
  cases d with
  | lst xs => obtain ⟨vs, rfl, r⟩ := r; exact ⟨a, vs, rfl, h, r⟩
  | dct xs => obtain ⟨vs, rfl, r⟩ := r; exact ⟨a, vs, rfl, .inl h, r⟩
  | ins C xs => obtain ⟨dx, vs, rfl, r⟩ := r; exact ⟨a, dx, vs, rfl, h, r⟩
  | _ => exact r.elim
theorem Rep.vw (k : Ok K w) {v : V} {d : D} (r : Rep K w v d) : Vw K w v (deref w.st d) := by
  cases r with
  | non => rfl
  | bl => rfl
  | int => rfl
  | str => rfl
  | tup h l z => exact ⟨_, _, rfl, k.sqT h, l, z⟩
  | lst h l z => exact ⟨_, _, rfl, k.ex _ _ h, l, z⟩
  | dct h l z => exact ⟨_, _, rfl, .inr ⟨_, k.ex _ _ h⟩, l, z⟩
  | ins h l z => exact ⟨_, _, _, rfl, k.ex _ _ h, l, z⟩
  | @ref l h =>
    have e : w.st[l]? = some w.st[l] := List.getElem?_eq_getElem h
    obtain ⟨o, ho, q⟩ := k.sto l _ e
    show Vw K w (.ref (w.ρ l)) (w.st[l]?.getD .non)
    rw [e]
    rcases q with q | ⟨_, r⟩
    · show Vw K w _ w.st[l]
      rw [q]; exact ⟨_, rfl⟩
    · exact r.vw ho
  | scr h => exact ⟨_, rfl, k.sqL h⟩
  | ty => rfl
  | cls => rfl
  | opq => exact ⟨_, rfl⟩
end

/-! ### the frame's slots -/
inductive Sl where
  | no | sh (d : D) | ow (d : D)
abbrev DEnv := List Sl
structure Fr (K : PySem.W.Frag) (H0 : Hp) (w : Wd) (Γ : DEnv) (σ : L2.St) : Prop where
  len : σ.length = Γ.length
  sh : ∀ (i : Nat) (d : D), Γ[i]? = some (.sh d) → ∃ v, σ[i]? = some (some v) ∧ Rep K w v d
  ow : ∀ (i : Nat) (d : D), Γ[i]? = some (.ow d) → ∃ a o, σ[i]? = some (some (.ref a)) ∧ w.H a = some o ∧ w.M a = none ∧ H0 a = none ∧ (∀ l, l < w.st.length → w.ρ l ≠ a) ∧ RO K w o d
  dj : ∀ (i j : Nat) (d e : D) (a : Addr), i ≠ j → Γ[i]? = some (.ow d) → Γ[j]? = some (.ow e) → σ[i]? = some (some (.ref a)) → σ[j]? ≠ some (some (.ref a))
section
variable {K : PySem.W.Frag} {w w' : Wd} {H0 : Hp} {Γ : DEnv} {σ : L2.St}
theorem Fr.evo (f : Fr K H0 w Γ σ) (e : Evo w w') : Fr K H0 w' Γ σ where
  len := f.len
  sh := fun i d h => let ⟨v, a, b⟩ := f.sh i d h; ⟨v, a, b.evo e⟩
  ow := fun i d h => by
    obtain ⟨a, o, h1, h2, h3, h4, h5, h6⟩ := f.ow i d h
    refine ⟨a, o, h1, e.keep a o h2 h3 h5, ?_, h4, fun l hl q => ?_, h6.evo e⟩
    · cases q : w'.M a with
      | none => rfl
      | some u => have z := e.newM a u q h3; rw [h2] at z; cases z
    · by_cases z : l < w.st.length
      · exact h5 l z ((e.rho l z).symm.trans q)
      · have y := e.newR l (Nat.le_of_not_lt z) hl
        rw [q, h2] at y; cases y
  dj := f.dj
/-- a slot's value, own or shared: readable now -/
def Den (K : PySem.W.Frag) (w : Wd) (Γ : DEnv) (σ : L2.St) (v : V) (d : D) : Prop := Rep K w v d ∨ ∃ i : Nat, Γ[i]? = some (.ow d) ∧ σ[i]? = some (some v)
theorem Den.evo {v : V} {d : D} (h : Den K w Γ σ v d) (e : Evo w w') : Den K w' Γ σ v d := h.elim (fun r => .inl (r.evo e)) .inr
theorem RO.noref {o : HO} {d : D} (r : RO K w o d) (st : Store) : deref st d = d := by
  cases d <;> first | rfl | exact r.elim
theorem Den.vw (k : Ok K w) (f : Fr K H0 w Γ σ) {v : V} {d : D} (h : Den K w Γ σ v d) : Vw K w v (deref w.st d) := by
  rcases h with r | ⟨i, a, b⟩
  · exact r.vw k
  · obtain ⟨p, o, h1, h2, _, _, _, r⟩ := f.ow i d a
    rw [b] at h1; cases h1
    rw [r.noref]
    exact r.vw h2
end

/-! ### what comes of an expression, a test, a statement -/
structure Xn where
  own : Bool
  C : String
  fs : List (Str × D)
inductive ER where
  | ok (d : D) (st : Store) | err (x : Xn) (st : Store) | no
inductive SR where
  | nx (Γ : DEnv) (st : Store) | ret (d : D) (st : Store) | bk (Γ : DEnv) (st : Store) | ct (Γ : DEnv) (st : Store) | err (x : Xn) (Γ : DEnv) (st : Store) | no
abbrev EM := DEnv → Store → ER
abbrev SM := DEnv → Store → SR

def RepX (K : PySem.W.Frag) (w : Wd) (cls : Value) (dd : Option Addr) (x : Xn) : Prop := cls = (if x.own = true then .ref (cA K x.C) else .type x.C) ∧ match x.fs with
  | [] => dd = none
  | fs => ∃ d gs, dd = some d ∧ w.M d = some (.xd gs) ∧ RepP K w gs fs
def PostE (K : PySem.W.Frag) (w : Wd) (r : ER) (Q : VK) (W : XK) : Prop := match r with
  | .ok d st' => ∀ v w', Evo w w' → Ok K w' → w'.st = st' → Rep K w' v d → Q v w'.H
  | .err x st' => ∀ c dd w', Evo w w' → Ok K w' → w'.st = st' → RepX K w' c dd x → W c dd w'.H
  | .no => False
def PostB (K : PySem.W.Frag) (w : Wd) (Γ : DEnv) (σ : L2.St) (r : ER) (Q : VK) (W : XK) : Prop := match r with
  | .ok d st' => ∀ v w', Evo w w' → Ok K w' → w'.st = st' → Den K w' Γ σ v d → Q v w'.H
  | .err x st' => ∀ c dd w', Evo w w' → Ok K w' → w'.st = st' → RepX K w' c dd x → W c dd w'.H
  | .no => False
def PostT (K : PySem.W.Frag) (w : Wd) (r : ER) (Q : Bool → Hp → Prop) (W : XK) : Prop := match r with
  | .ok (.bl b) st' => ∀ w', Evo w w' → Ok K w' → w'.st = st' → Q b w'.H
  | .ok _ _ => False
  | .err x st' => ∀ c dd w', Evo w w' → Ok K w' → w'.st = st' → RepX K w' c dd x → W c dd w'.H
  | .no => False
def PostA (K : PySem.W.Frag) (w : Wd) (r : ER) (Q : List V → Hp → Prop) (W : XK) : Prop := match r with
  | .ok (.tup ds) st' => ∀ vs w', Evo w w' → Ok K w' → w'.st = st' → RepL K w' vs ds → Q vs w'.H
  | .ok _ _ => False
  | .err x st' => ∀ c dd w', Evo w w' → Ok K w' → w'.st = st' → RepX K w' c dd x → W c dd w'.H
  | .no => False
def PostS (K : PySem.W.Frag) (w0 w : Wd) (r : SR) (D : Ends) (W : WX) : Prop := match r with
  | .nx Γ st' => ∀ w' σ, Evo w0 w' → Ext w w' → Ok K w' → w'.st = st' → Fr K w0.H w' Γ σ → D.nx σ w'.H
  | .bk Γ st' => ∀ w' σ, Evo w0 w' → Ext w w' → Ok K w' → w'.st = st' → Fr K w0.H w' Γ σ → D.bk σ w'.H
  | .ct Γ st' => ∀ w' σ, Evo w0 w' → Ext w w' → Ok K w' → w'.st = st' → Fr K w0.H w' Γ σ → D.ct σ w'.H
  | .ret d st' => ∀ v w', Evo w0 w' → Ok K w' → w'.st = st' → Rep K w' v d → D.rt v w'.H
  | .err x Γ st' => ∀ c dd w' σ, Evo w0 w' → Ext w w' → Ok K w' → w'.st = st' → Fr K w0.H w' Γ σ → RepX K w' c dd x → W c dd σ w'.H
  | .no => False
theorem PostS.shift {K : PySem.W.Frag} {w0 w w' : Wd} (e : Ext w w') {r : SR} {D : Ends} {W : WX} (p : PostS K w0 w r D W) : PostS K w0 w' r D W := by
  cases r with
  | nx Γ st => exact fun w2 σ a b => p w2 σ a (e.trans b)
  | bk Γ st => exact fun w2 σ a b => p w2 σ a (e.trans b)
  | ct Γ st => exact fun w2 σ a b => p w2 σ a (e.trans b)
  | ret d st => exact p
  | err x Γ st => exact fun c dd w2 σ a b => p c dd w2 σ a (e.trans b)
  | no => exact p

abbrev at_ (W : WX) (σ : L2.St) : XK := fun c d H => W c d σ H
def RT (K : PySem.W.Frag) (W : WX) (t : TE) (m : EM) : Prop := ∀ (H0 : Hp) (w : Wd) (Γ : DEnv) (σ : L2.St), Ok K w → Fr K H0 w Γ σ → ∀ Q : VK, PostE K w (m Γ w.st) Q (at_ W σ) → t σ w.H Q
def RB (K : PySem.W.Frag) (W : WX) (t : TE) (m : EM) : Prop := ∀ (H0 : Hp) (w : Wd) (Γ : DEnv) (σ : L2.St), Ok K w → Fr K H0 w Γ σ → ∀ Q : VK, PostB K w Γ σ (m Γ w.st) Q (at_ W σ) → t σ w.H Q
def RTT (K : PySem.W.Frag) (W : WX) (t : TT) (m : EM) : Prop := ∀ (H0 : Hp) (w : Wd) (Γ : DEnv) (σ : L2.St), Ok K w → Fr K H0 w Γ σ → ∀ Q : Bool → Hp → Prop, PostT K w (m Γ w.st) Q (at_ W σ) → t σ w.H Q
def RTA (K : PySem.W.Frag) (W : WX) (t : TA) (m : EM) : Prop := ∀ (H0 : Hp) (w : Wd) (Γ : DEnv) (σ : L2.St), Ok K w → Fr K H0 w Γ σ → ∀ Q : List V → Hp → Prop, PostA K w (m Γ w.st) Q (at_ W σ) → t σ w.H Q
def RTS (K : PySem.W.Frag) (W : WX) (t : TS) (m : SM) : Prop := ∀ (w0 w : Wd) (Γ : DEnv) (σ : L2.St), Evo w0 w → Ok K w → Fr K w0.H w Γ σ → ∀ D : Ends, PostS K w0 w (m Γ w.st) D W → t D σ w.H


/-! ### one after the other -/
def ER.bind (r : ER) (f : D → Store → ER) : ER := match r with
  | .ok d st => f d st
  | .err x st => .err x st
  | .no => .no
def ER.bs (r : ER) (Γ : DEnv) (f : D → Store → SR) : SR := match r with
  | .ok d st => f d st
  | .err x st => .err x Γ st
  | .no => .no
def SR.bind (r : SR) (f : DEnv → Store → SR) : SR := match r with
  | .nx Γ st => f Γ st
  | r => r
@[simp] theorem ok_bind {d : D} {st : Store} {f : D → Store → ER} : (ER.ok d st).bind f = f d st := rfl
@[simp] theorem err_bind {x : Xn} {st : Store} {f : D → Store → ER} : (ER.err x st).bind f = .err x st := rfl
@[simp] theorem no_bind {f : D → Store → ER} : ER.no.bind f = .no := rfl
@[simp] theorem ok_bs {d : D} {st : Store} {Γ : DEnv} {f : D → Store → SR} : (ER.ok d st).bs Γ f = f d st := rfl
@[simp] theorem err_bs {x : Xn} {st : Store} {Γ : DEnv} {f : D → Store → SR} : (ER.err x st).bs Γ f = .err x Γ st := rfl
@[simp] theorem no_bs {Γ : DEnv} {f : D → Store → SR} : ER.no.bs Γ f = .no := rfl
@[simp] theorem nx_bind {Γ : DEnv} {st : Store} {f : DEnv → Store → SR} : (SR.nx Γ st).bind f = f Γ st := rfl
@[simp] theorem ret_bind {d : D} {st : Store} {f : DEnv → Store → SR} : (SR.ret d st).bind f = .ret d st := rfl
@[simp] theorem bk_bind {Γ : DEnv} {st : Store} {f : DEnv → Store → SR} : (SR.bk Γ st).bind f = .bk Γ st := rfl
@[simp] theorem ct_bind {Γ : DEnv} {st : Store} {f : DEnv → Store → SR} : (SR.ct Γ st).bind f = .ct Γ st := rfl
@[simp] theorem errS_bind {x : Xn} {Γ : DEnv} {st : Store} {f : DEnv → Store → SR} : (SR.err x Γ st).bind f = .err x Γ st := rfl
@[simp] theorem noS_bind {f : DEnv → Store → SR} : SR.no.bind f = .no := rfl

section
variable {K : PySem.W.Frag} {W : WX} {w w' : Wd} {H0 : Hp} {Γ : DEnv} {σ : L2.St}
theorem PostE.shift (e : Evo w w') (k : Ok K w') {r : ER} {Q : VK} {E : XK} (p : PostE K w r Q E) : PostE K w' r Q E := by
  cases r with
  | ok d st => exact fun v w2 e2 k2 s r => p v w2 (e.trans k e2) k2 s r
  | err x st => exact fun c dd w2 e2 k2 s r => p c dd w2 (e.trans k e2) k2 s r
  | no => exact p
theorem PostB.shift (e : Evo w w') (k : Ok K w') {r : ER} {Q : VK} {E : XK} (p : PostB K w Γ σ r Q E) : PostB K w' Γ σ r Q E := by
  cases r with
  | ok d st => exact fun v w2 e2 k2 s r => p v w2 (e.trans k e2) k2 s r
  | err x st => exact fun c dd w2 e2 k2 s r => p c dd w2 (e.trans k e2) k2 s r
  | no => exact p
theorem PostT.shift (e : Evo w w') (k : Ok K w') {r : ER} {Q : Bool → Hp → Prop} {E : XK} (p : PostT K w r Q E) : PostT K w' r Q E := by
  cases r with
  | ok d st =>
    cases d with
    | bl b => exact fun w2 e2 k2 s => p w2 (e.trans k e2) k2 s
    | _ => exact p
  | err x st => exact fun c dd w2 e2 k2 s r => p c dd w2 (e.trans k e2) k2 s r
  | no => exact p
theorem PostA.shift (e : Evo w w') (k : Ok K w') {r : ER} {Q : List V → Hp → Prop} {E : XK} (p : PostA K w r Q E) : PostA K w' r Q E := by
  cases r with
  | ok d st =>
    cases d with
    | tup ds => exact fun v w2 e2 k2 s r => p v w2 (e.trans k e2) k2 s r
    | _ => exact p
  | err x st => exact fun c dd w2 e2 k2 s r => p c dd w2 (e.trans k e2) k2 s r
  | no => exact p
/-- what stands still is told at once -/
theorem PostE.now {d : D} {Q : VK} {E : XK} (p : PostE K w (.ok d w.st) Q E) (k : Ok K w) {v : V} (r : Rep K w v d) : Q v w.H := p v w (Evo.refl w) k rfl r
theorem PostB.now {d : D} {Q : VK} {E : XK} (p : PostB K w Γ σ (.ok d w.st) Q E) (k : Ok K w) {v : V} (r : Den K w Γ σ v d) : Q v w.H := p v w (Evo.refl w) k rfl r
theorem PostT.now {b : Bool} {Q : Bool → Hp → Prop} {E : XK} (p : PostT K w (.ok (.bl b) w.st) Q E) (k : Ok K w) : Q b w.H := p w (Evo.refl w) k rfl

/-- a part is evaluated, then g goes on: P is a later want that shifts -/
theorem RT.use {t : TE} {m : EM} (h : RT K W t m) (k : Ok K w) (f : Fr K H0 w Γ σ) {Q : VK} {P : Wd → ER → Prop} {g : D → Store → ER}
    (sh : ∀ w' r, Evo w w' → Ok K w' → P w r → P w' r) (pe : ∀ x st, P w (.err x st) → PostE K w (.err x st) Q (at_ W σ)) (pn : ¬ P w .no)
    (p : P w ((m Γ w.st).bind g)) (q : ∀ d v w', Evo w w' → Ok K w' → Fr K H0 w' Γ σ → Rep K w' v d → P w' (g d w'.st) → Q v w'.H) : t σ w.H Q := by
  refine h H0 w Γ σ k f Q ?_
  cases e : m Γ w.st with
  | ok d st => rw [e] at p; exact fun v w' ev k' s r => q d v w' ev k' (f.evo ev) r (by subst s; exact sh w' _ ev k' p)
  | err x st => rw [e] at p; exact pe x st p
  | no => rw [e] at p; exact (pn p).elim
theorem RB.use {t : TE} {m : EM} (h : RB K W t m) (k : Ok K w) (f : Fr K H0 w Γ σ) {Q : VK} {P : Wd → ER → Prop} {g : D → Store → ER}
    (sh : ∀ w' r, Evo w w' → Ok K w' → P w r → P w' r) (pe : ∀ x st, P w (.err x st) → PostB K w Γ σ (.err x st) Q (at_ W σ)) (pn : ¬ P w .no)
    (p : P w ((m Γ w.st).bind g)) (q : ∀ d v w', Evo w w' → Ok K w' → Fr K H0 w' Γ σ → Den K w' Γ σ v d → P w' (g d w'.st) → Q v w'.H) : t σ w.H Q := by
  refine h H0 w Γ σ k f Q ?_
  cases e : m Γ w.st with
  | ok d st => rw [e] at p; exact fun v w' ev k' s r => q d v w' ev k' (f.evo ev) r (by subst s; exact sh w' _ ev k' p)
  | err x st => rw [e] at p; exact pe x st p
  | no => rw [e] at p; exact (pn p).elim
theorem RTT.use {t : TT} {m : EM} (h : RTT K W t m) (k : Ok K w) (f : Fr K H0 w Γ σ) {Q : Bool → Hp → Prop} {P : Wd → ER → Prop} {g : D → Store → ER}
    (sh : ∀ w' r, Evo w w' → Ok K w' → P w r → P w' r) (pe : ∀ x st, P w (.err x st) → PostT K w (.err x st) Q (at_ W σ)) (pn : ¬ P w .no) (gn : ∀ d st, (∀ b, d ≠ .bl b) → g d st = .no)
    (p : P w ((m Γ w.st).bind g)) (q : ∀ b w', Evo w w' → Ok K w' → Fr K H0 w' Γ σ → P w' (g (.bl b) w'.st) → Q b w'.H) : t σ w.H Q := by
  refine h H0 w Γ σ k f Q ?_
  cases e : m Γ w.st with
  | ok d st =>
    rw [e] at p
    cases d with
    | bl b => exact fun w' ev k' s => q b w' ev k' (f.evo ev) (by subst s; exact sh w' _ ev k' p)
    | _ => rw [ok_bind, gn _ _ (fun b z => by cases z)] at p; exact (pn p).elim
  | err x st => rw [e] at p; exact pe x st p
  | no => rw [e] at p; exact (pn p).elim
theorem RTA.use {t : TA} {m : EM} (h : RTA K W t m) (k : Ok K w) (f : Fr K H0 w Γ σ) {Q : List V → Hp → Prop} {P : Wd → ER → Prop} {g : D → Store → ER}
    (sh : ∀ w' r, Evo w w' → Ok K w' → P w r → P w' r) (pe : ∀ x st, P w (.err x st) → PostA K w (.err x st) Q (at_ W σ)) (pn : ¬ P w .no) (gn : ∀ d st, (∀ b, d ≠ .tup b) → g d st = .no)
    (p : P w ((m Γ w.st).bind g)) (q : ∀ ds vs w', Evo w w' → Ok K w' → Fr K H0 w' Γ σ → RepL K w' vs ds → P w' (g (.tup ds) w'.st) → Q vs w'.H) : t σ w.H Q := by
  refine h H0 w Γ σ k f Q ?_
  cases e : m Γ w.st with
  | ok d st =>
    rw [e] at p
    cases d with
    | tup ds => exact fun vs w' ev k' s r => q ds vs w' ev k' (f.evo ev) r (by subst s; exact sh w' _ ev k' p)
    | _ => rw [ok_bind, gn _ _ (fun b z => by cases z)] at p; exact (pn p).elim
  | err x st => rw [e] at p; exact pe x st p
  | no => rw [e] at p; exact (pn p).elim
end
theorem RT.b {K : PySem.W.Frag} {W : WX} {t : TE} {m : EM} (h : RT K W t m) : RB K W t m := fun H0 w Γ σ k f Q p => h H0 w Γ σ k f Q (by
  cases e : m Γ w.st with
  | ok d st' => rw [e] at p; exact fun v w' a b c r => p v w' a b c (.inl r)
  | err x st' => rw [e] at p; exact p
  | no => rw [e] at p; exact p)
end DL
namespace DL
open PySem L2
section
variable {K : PySem.W.Frag} {W : WX} {w w' w0 : Wd} {H0 : Hp} {Γ : DEnv} {σ : L2.St}
theorem RT.useS {t : TE} {m : EM} (h : RT K W t m) (e0 : Evo w0 w) (k : Ok K w) (f : Fr K w0.H w Γ σ) {Q : VK} {Dn : Ends} {g : D → Store → SR}
    (p : PostS K w0 w ((m Γ w.st).bs Γ g) Dn W) (q : ∀ d v w', Evo w0 w' → Ok K w' → Fr K w0.H w' Γ σ → Rep K w' v d → Ext w w' → PostS K w0 w' (g d w'.st) Dn W → Q v w'.H) : t σ w.H Q := by
  refine h w0.H w Γ σ k f Q ?_
  cases e : m Γ w.st with
  | ok d st => rw [e] at p; exact fun v w' ev k' s r => q d v w' (e0.trans k ev) k' (f.evo ev) r ev.ext (by subst s; exact p.shift ev.ext)
  | err x st => rw [e] at p; exact fun c dd w' ev k' s r => p c dd w' σ (e0.trans k ev) ev.ext k' s (f.evo ev) r
  | no => rw [e] at p; exact p
theorem RB.useS {t : TE} {m : EM} (h : RB K W t m) (e0 : Evo w0 w) (k : Ok K w) (f : Fr K w0.H w Γ σ) {Q : VK} {Dn : Ends} {g : D → Store → SR}
    (p : PostS K w0 w ((m Γ w.st).bs Γ g) Dn W) (q : ∀ d v w', Evo w0 w' → Ok K w' → Fr K w0.H w' Γ σ → Den K w' Γ σ v d → Ext w w' → PostS K w0 w' (g d w'.st) Dn W → Q v w'.H) : t σ w.H Q := by
  refine h w0.H w Γ σ k f Q ?_
  cases e : m Γ w.st with
  | ok d st => rw [e] at p; exact fun v w' ev k' s r => q d v w' (e0.trans k ev) k' (f.evo ev) r ev.ext (by subst s; exact p.shift ev.ext)
  | err x st => rw [e] at p; exact fun c dd w' ev k' s r => p c dd w' σ (e0.trans k ev) ev.ext k' s (f.evo ev) r
  | no => rw [e] at p; exact p
theorem RTT.useS {t : TT} {m : EM} (h : RTT K W t m) (e0 : Evo w0 w) (k : Ok K w) (f : Fr K w0.H w Γ σ) {Q : Bool → Hp → Prop} {Dn : Ends} {g : D → Store → SR}
    (p : PostS K w0 w ((m Γ w.st).bs Γ g) Dn W) (gn : ∀ d st, (∀ b, d ≠ .bl b) → g d st = .no) (q : ∀ b w', Evo w0 w' → Ok K w' → Fr K w0.H w' Γ σ → Ext w w' → PostS K w0 w' (g (.bl b) w'.st) Dn W → Q b w'.H) : t σ w.H Q := by
  refine h w0.H w Γ σ k f Q ?_
  cases e : m Γ w.st with
  | ok d st =>
    rw [e] at p
    cases d with
    | bl b => exact fun w' ev k' s => q b w' (e0.trans k ev) k' (f.evo ev) ev.ext (by subst s; exact p.shift ev.ext)
    | _ => rw [ok_bs, gn _ _ (fun b z => by cases z)] at p; exact p
  | err x st => rw [e] at p; exact fun c dd w' ev k' s r => p c dd w' σ (e0.trans k ev) ev.ext k' s (f.evo ev) r
  | no => rw [e] at p; exact p

/-! ### a new frozen thing -/
theorem Ok.none (k : Ok K w) {p : Addr} (hp : w.H p = Option.none) : w.M p = Option.none := by
  cases q : w.M p with
  | none => rfl
  | some o => rw [k.ex p o q] at hp; cases hp
/-- the world with a frozen object o at p -/
def Wd.fz (w : Wd) (p : Addr) (o : HO) : Wd := { w with M := upd w.M p o, H := upd w.H p o }
theorem evo_fz (k : Ok K w) {p : Addr} (o : HO) (hp : w.H p = Option.none) : Evo w (w.fz p o) where
  mono := fun a u h => by show upd _ _ _ _ = _; rw [upd_ne (ne_of_none h (k.none hp))]; exact h
  rho := fun _ _ => rfl
  le := Nat.le_refl _
  newM := fun a u h n => by
    by_cases q : a = p
    · subst q; exact hp
    · have h' : upd w.M p o a = some u := h
      rw [upd_ne q, n] at h'; cases h'
  newR := fun l h1 h2 => absurd (Nat.lt_of_lt_of_le h2 h1) (Nat.lt_irrefl _)
  keep := fun a u h _ _ => by show upd _ _ _ _ = _; rw [upd_ne (ne_of_none h hp)]; exact h
theorem ok_fz (k : Ok K w) {p : Addr} (o : HO) (hp : w.H p = Option.none) : Ok K (w.fz p o) where
  ex := fun a u h => by
    have h' : upd w.M p o a = some u := h
    show upd w.H p o a = some u
    by_cases q : a = p
    · subst q; rw [upd_same] at h' ⊢; exact h'
    · rw [upd_ne q] at h' ⊢; exact k.ex a u h'
  sto := fun l d h => by
    obtain ⟨u, h1, h2⟩ := k.sto l d h
    have ne : w.ρ l ≠ p := ne_of_none h1 hp
    exact ⟨u, by show upd w.H p o (w.ρ l) = _; rw [upd_ne ne]; exact h1, h2.imp id fun ⟨h2, h3⟩ => ⟨by show upd w.M p o (w.ρ l) = _; rw [upd_ne ne]; exact h2, h3.evo (evo_fz k o hp)⟩⟩
  inj := k.inj
theorem rep_lst {p : Addr} {vs : List V} {xs : List D} (k : Ok K w) (hp : w.H p = Option.none) (r : RepL K w vs xs) : Rep K (w.fz p (.lst vs)) (.ref p) (.lst xs) :=
  have r' := r.evo (evo_fz k (.lst vs) hp)
  .lst (by show upd _ _ _ _ = _; exact upd_same) r'.1 r'.2
theorem rep_tup {p : Addr} {vs : List V} {xs : List D} (k : Ok K w) (hp : w.H p = Option.none) (r : RepL K w vs xs) : Rep K (w.fz p (.tup vs)) (.ref p) (.tup xs) :=
  have r' := r.evo (evo_fz k (.tup vs) hp)
  .tup (.inl (.inl (by show upd _ _ _ _ = _; exact upd_same))) r'.1 r'.2
theorem PostE.lst {st : Store} {xs : List D} {Q : VK} {E : XK} (p : PostE K w (.ok (.lst xs) st) Q E) (s : w.st = st) (k : Ok K w) {vs : List V} (r : RepL K w vs xs) (a : Addr) (ha : w.H a = Option.none) : Q (.ref a) (upd w.H a (.lst vs)) :=
  p (.ref a) (w.fz a (.lst vs)) (evo_fz k _ ha) (ok_fz k _ ha) s (rep_lst k ha r)
theorem PostE.tup {st : Store} {xs : List D} {Q : VK} {E : XK} (p : PostE K w (.ok (.tup xs) st) Q E) (s : w.st = st) (k : Ok K w) {vs : List V} (r : RepL K w vs xs) (a : Addr) (ha : w.H a = Option.none) : Q (.ref a) (upd w.H a (.tup vs)) :=
  p (.ref a) (w.fz a (.tup vs)) (evo_fz k _ ha) (ok_fz k _ ha) s (rep_tup k ha r)
end

/-- a scope, and the names whose cells were made at its entry -/
structure SC where
  s : Scope
  fn : Str → Bool
/-! ### the contexts that a def's body (and its comprehensions) run in -/
structure G (P : Program) (wd : World) (K : PySem.W.Frag) (mg : Str → Option Value) (base : Heap) (k : Nat) (N : List Str) (sc : SC) (W : WX) (X : Cx) : Prop where
  prog : X.prog = P
  wd : X.w = wd
  kk : X.K = K
  mg : X.mg = mg
  bs : X.base = base
  nn : X.N = N
  scp : X.env.scope = sc.s
  calm : X.calm = true
  room : Room k X.A
  grd : Tp X.A X.base
  tk : Takes X W
  pass : PassesOwn (model X.prog X.w) X.A X.env X.xe
  fnc : X.fn = sc.fn
def PR (P : Program) (wd : World) (K : PySem.W.Frag) (mg : Str → Option Value) (base : Heap) (k : Nat) (N : List Str) (sc : SC) (W : WX) (e : Expr) (m : EM) : Prop := ∃ t : TE, (∀ X, G P wd K mg base k N sc W X → PE X e t) ∧ RT K W t m
def PB (P : Program) (wd : World) (K : PySem.W.Frag) (mg : Str → Option Value) (base : Heap) (k : Nat) (N : List Str) (sc : SC) (W : WX) (e : Expr) (m : EM) : Prop := ∃ t : TE, (∀ X, G P wd K mg base k N sc W X → PE X e t) ∧ RB K W t m
def PTt (P : Program) (wd : World) (K : PySem.W.Frag) (mg : Str → Option Value) (base : Heap) (k : Nat) (N : List Str) (sc : SC) (W : WX) (e : Expr) (m : EM) : Prop := ∃ t : TT, (∀ X, G P wd K mg base k N sc W X → PT X e t) ∧ RTT K W t m
def PWt (P : Program) (wd : World) (K : PySem.W.Frag) (mg : Str → Option Value) (base : Heap) (k : Nat) (N : List Str) (sc : SC) (W : WX) (e : Expr) (m : EM) : Prop := ∃ t : TT, (∀ X, G P wd K mg base k N sc W X → PW X e t) ∧ RTT K W t m
def PAr (P : Program) (wd : World) (K : PySem.W.Frag) (mg : Str → Option Value) (base : Heap) (k : Nat) (N : List Str) (sc : SC) (W : WX) (es : List Expr) (m : EM) : Prop := ∃ t : TA, (∀ X, G P wd K mg base k N sc W X → PA X es t) ∧ RTA K W t m
def PSt (P : Program) (wd : World) (K : PySem.W.Frag) (mg : Str → Option Value) (base : Heap) (k : Nat) (N : List Str) (sc : SC) (W : WX) (s : Stmt) (m : SM) : Prop := ∃ t : TS, (∀ X, G P wd K mg base k N sc W X → PS X s t) ∧ RTS K W t m
def PSl (P : Program) (wd : World) (K : PySem.W.Frag) (mg : Str → Option Value) (base : Heap) (k : Nat) (N : List Str) (sc : SC) (W : WX) (ss : List Stmt) (m : SM) : Prop := ∃ t : TS, (∀ X, G P wd K mg base k N sc W X → PSs X ss t) ∧ RTS K W t m

section
variable {P : Program} {wd : World} {K : PySem.W.Frag} {mg : Str → Option Value} {base : Heap} {k : Nat} {N : List Str} {sc : SC} {W : WX}
theorem PR.b {e : Expr} {m : EM} (h : PR P wd K mg base k N sc W e m) : PB P wd K mg base k N sc W e m := let ⟨t, a, b⟩ := h; ⟨t, a, b.b⟩

/-! ### names and constants -/
def eVar (i : Nat) : EM := fun Γ st => match Γ[i]? with
  | some (.sh d) => .ok d st
  | _ => .no
def eVarB (i : Nat) : EM := fun Γ st => match Γ[i]? with
  | some (.sh d) => .ok d st
  | some (.ow d) => .ok d st
  | _ => .no
def eC (d : D) : EM := fun _ st => .ok d st
def VisS (sc : SC) (x : Str) : Prop := Vis sc.s x
theorem pr_var (i : Nat) {x : Str} {pos : Pos} (hN : N[i]? = some x := by rfl) (hv : Vis sc.s x := by first | exact Or.inl rfl | exact Or.inr (Or.inl rfl) | exact Or.inr (Or.inr rfl)) (hd : (x == ("__debug__" : Str)) = false := by decide)
    (hcd : (x == ("__classdict__" : Str)) = false := by decide) : PR P wd K mg base k N sc W (.Name x pos) (eVar i) := by
  refine ⟨tVar i, fun X g => pe_var (by rw [g.nn]; exact hN) (by rw [g.scp]; exact hv) hd hcd, ?_⟩
  intro H0 w Γ σ ok f Q p
  unfold eVar at p
  split at p
  · rename_i d h
    obtain ⟨v, h1, r⟩ := f.sh i d h
    exact ⟨v, h1, p.now ok r⟩
  · exact p.elim
theorem pb_var (i : Nat) {x : Str} {pos : Pos} (hN : N[i]? = some x := by rfl) (hv : Vis sc.s x := by first | exact Or.inl rfl | exact Or.inr (Or.inl rfl) | exact Or.inr (Or.inr rfl)) (hd : (x == ("__debug__" : Str)) = false := by decide)
    (hcd : (x == ("__classdict__" : Str)) = false := by decide) : PB P wd K mg base k N sc W (.Name x pos) (eVarB i) := by
  refine ⟨tVar i, fun X g => pe_var (by rw [g.nn]; exact hN) (by rw [g.scp]; exact hv) hd hcd, ?_⟩
  intro H0 w Γ σ ok f Q p
  unfold eVarB at p
  split at p
  · rename_i d h
    obtain ⟨v, h1, r⟩ := f.sh i d h
    exact ⟨v, h1, p.now ok (.inl r)⟩
  · rename_i d h
    obtain ⟨a, o, h1, _⟩ := f.ow i d h
    exact ⟨_, h1, p.now ok (.inr ⟨i, h, h1⟩)⟩
  · exact p.elim
theorem rt_c {v : V} {d : D} (r : ∀ w, Rep K w v d) : RT K W (tC v) (eC d) := fun H0 w Γ σ ok f Q p => p.now ok (r w)
theorem pr_int {i : Int} {j : Nat} {pos : Pos} : PR P wd K mg base k N sc W (.Constant (.int i) j pos) (eC (.int i)) := ⟨_, fun X g => pe_int, rt_c fun _ => .int⟩
theorem pr_bl {b : Bool} {j : Nat} {pos : Pos} : PR P wd K mg base k N sc W (.Constant (.bool b) j pos) (eC (.bl b)) := ⟨_, fun X g => pe_bl, rt_c fun _ => .bl⟩
theorem pr_non {j : Nat} {pos : Pos} : PR P wd K mg base k N sc W (.Constant .none j pos) (eC .non) := ⟨_, fun X g => pe_non, rt_c fun _ => .non⟩
theorem pr_str {x : Str} {j : Nat} {pos : Pos} : PR P wd K mg base k N sc W (.Constant (.str x) j pos) (eC (.str x)) := ⟨_, fun X g => pe_str, rt_c fun _ => .str⟩
/-- a constant of the module -/
theorem pr_glob {x : Str} {v : V} {d : D} {pos : Pos} (hm : ∃ u, mg x = some u ∧ RelV v u) (r : ∀ w, Rep K w v d) (hg : sc.s.names.lookup x = some .globalImplicit := by rfl) (hd : (x == ("__debug__" : Str)) = false := by decide) :
    PR P wd K mg base k N sc W (.Name x pos) (eC d) := by
  obtain ⟨u, hu, ru⟩ := hm
  exact ⟨tC v, fun X g => pe_glob (by unfold Gl PySem.Env.kindOf; rw [g.scp]; exact hg) (by rw [g.mg]; exact hu) ru hd, rt_c r⟩

/-! ### operators -/
def eOp (f : D → D → Store → ER) (ma mb : EM) : EM := fun Γ st => (ma Γ st).bind fun x s1 => (mb Γ s1).bind fun y s2 => f (deref s2 x) (deref s2 y) s2
/-- what an operation by values wants is had from the data -/
def OpD (K : PySem.W.Frag) (r : R2) (f : D → D → Store → ER) : Prop := ∀ (w : Wd) (x y : V) (dx dy : D) (Q : VK) (E : XK), Ok K w → Vw K w x dx → Vw K w y dy → PostE K w (f dx dy w.st) Q E → r x y w.H Q
theorem OpD.or {r r' : R2} {f g : D → D → Store → ER} {h : D → D → Store → ER} (a : OpD K r f) (b : OpD K r' g) (s : ∀ x y st, h x y st = f x y st ∨ h x y st = g x y st) : OpD K (fun x y H Q => r x y H Q ∨ r' x y H Q) h := fun w x y dx dy Q E k vx vy p => by
  rcases s dx dy w.st with e | e
  · exact .inl (a w x y dx dy Q E k vx vy (by rw [← e]; exact p))
  · exact .inr (b w x y dx dy Q E k vx vy (by rw [← e]; exact p))
theorem rt_op {r : R2} {f : D → D → Store → ER} {ta tb : TE} {ma mb : EM} (h : OpD K r f) (ra : RB K W ta ma) (rb : RB K W tb mb) : RT K W (tOp r ta tb) (eOp f ma mb) := by
  intro H0 w Γ σ ok f0 Q p
  refine ra.use ok f0 (P := fun w r => PostE K w r Q (at_ W σ)) (fun _ _ e k p => p.shift e k) (fun _ _ p => p) (fun p => p) p fun dx x w1 e1 k1 f1 vx p1 => ?_
  refine rb.use k1 f1 (P := fun w r => PostE K w r Q (at_ W σ)) (fun _ _ e k p => p.shift e k) (fun _ _ p => p) (fun p => p) p1 fun dy y w2 e2 k2 f2 vy p2 => ?_
  exact h w2 x y _ _ Q _ k2 ((vx.evo e2).vw k2 f2) (vy.vw k2 f2) p2
theorem pr_op {op : Operator} {r : R2} {f : D → D → Store → ER} {a b : Expr} {ma mb : EM} {pos : Pos} (ho : ∀ X, G P wd K mg base k N sc W X → OpR X (binaryOp op) r) (h : OpD K r f) (ha : PB P wd K mg base k N sc W a ma) (hb : PB P wd K mg base k N sc W b mb) :
    PR P wd K mg base k N sc W (.BinOp a op b pos) (eOp f ma mb) := by
  obtain ⟨ta, pa, ra⟩ := ha
  obtain ⟨tb, pb, rb⟩ := hb
  exact ⟨_, fun X g => pe_op (ho X g) (pa X g) (pb X g), rt_op h ra rb⟩
theorem pr_cmp {op : CmpOp} {r : R2} {f : D → D → Store → ER} {a b : Expr} {ma mb : EM} {pos : Pos} (ho : ∀ X, G P wd K mg base k N sc W X → OpR X (compareOp op) r) (h : OpD K r f) (ha : PB P wd K mg base k N sc W a ma) (hb : PB P wd K mg base k N sc W b mb)
    (hm : behindInMarks op b = false := by first | exact nomark _ | rfl) : PR P wd K mg base k N sc W (.Compare a [op] [b] pos) (eOp f ma mb) := by
  obtain ⟨ta, pa, ra⟩ := ha
  obtain ⟨tb, pb, rb⟩ := hb
  exact ⟨_, fun X g => pe_cmpR (ho X g) (pa X g) (pb X g) hm, rt_op h ra rb⟩
/-- a truth value as a test -/
theorem rtt_test {t : TE} {m : EM} (h : RT K W t m) : RTT K W (tTest t) m := by
  intro H0 w Γ σ ok f Q p
  refine h H0 w Γ σ ok f _ ?_
  cases e : m Γ w.st with
  | ok d st =>
    rw [e] at p
    cases d with
    | bl b => exact fun v w' ev k' s r => by cases r; exact ⟨b, rfl, p w' ev k' s⟩
    | _ => exact p.elim
  | err x st => rw [e] at p; exact p
  | no => rw [e] at p; exact p
theorem pt_cmp' {op : CmpOp} {r : R2} {f : D → D → Store → ER} {a b : Expr} {ma mb : EM} {pos : Pos} (ho : ∀ X, G P wd K mg base k N sc W X → OpR X (compareOp op) r) (h : OpD K r f) (ha : PB P wd K mg base k N sc W a ma) (hb : PB P wd K mg base k N sc W b mb)
    (hm : behindInMarks op b = false := by first | exact nomark _ | rfl) : PTt P wd K mg base k N sc W (.Compare a [op] [b] pos) (eOp f ma mb) := by
  obtain ⟨ta, pa, ra⟩ := ha
  obtain ⟨tb, pb, rb⟩ := hb
  exact ⟨_, fun X g => pt_cmpR (ho X g) (pa X g) (pb X g) hm, rtt_test (rt_op h ra rb)⟩
theorem pt_val' {e : Expr} {m : EM} (h : PR P wd K mg base k N sc W e m) (he : ∀ env whole, isTrue e env whole = (do let v ← whole; standAt e.pos; holding [v] (truthy v)) := by intro _ _; rfl) : PTt P wd K mg base k N sc W e m := by
  obtain ⟨t, p, r⟩ := h
  exact ⟨_, fun X g => pt_val (p X g) (fun whole => he X.env whole), rtt_test r⟩
theorem pt_not' {e : Expr} {m : EM} {pos : Pos} (h : PTt P wd K mg base k N sc W e m) : PTt P wd K mg base k N sc W (.UnaryOp .Not e pos) (fun Γ st => (m Γ st).bind fun d s => match d with | .bl b => .ok (.bl !b) s | _ => .no) := by
  obtain ⟨t, p, r⟩ := h
  refine ⟨_, fun X g => pt_not (p X g), ?_⟩
  intro H0 w Γ σ ok f Q q
  exact r.use ok f (P := fun w r => PostT K w r Q (at_ W σ)) (fun _ _ e k p => p.shift e k) (fun _ _ p => p) (fun p => p) (fun d st hb => by cases d <;> first | rfl | exact absurd rfl (hb _)) q fun b w1 e1 k1 f1 p1 => p1.now k1
end
end DL
namespace DL
open PySem L2
section
variable {P : Program} {wd : World} {K : PySem.W.Frag} {mg : Str → Option Value} {base : Heap} {k : Nat} {N : List Str} {sc : SC} {W : WX}

/-! ### and, or, if as expressions -/
def eAnd (ma mb : EM) : EM := fun Γ st => (ma Γ st).bind fun d s => match d with | .bl true => mb Γ s | .bl false => .ok (.bl false) s | _ => .no
def eOr (ma mb : EM) : EM := fun Γ st => (ma Γ st).bind fun d s => match d with | .bl true => .ok (.bl true) s | .bl false => mb Γ s | _ => .no
def eNot (ma : EM) : EM := fun Γ st => (ma Γ st).bind fun d s => match d with | .bl b => .ok (.bl !b) s | _ => .no
def eIf (mc ma mb : EM) : EM := fun Γ st => (mc Γ st).bind fun d s => match d with | .bl true => ma Γ s | .bl false => mb Γ s | _ => .no
theorem rtt_and {ta tb : TT} {ma mb : EM} (ra : RTT K W ta ma) (rb : RTT K W tb mb) : RTT K W (tAnd ta tb) (eAnd ma mb) := by
  intro H0 w Γ σ ok f Q q
  refine ra.use ok f (P := fun w r => PostT K w r Q (at_ W σ)) (fun _ _ e k p => p.shift e k) (fun _ _ p => p) (fun p => p) (fun d st hb => by cases d <;> first | rfl | exact absurd rfl (hb _)) q fun b w1 e1 k1 f1 p1 => ?_
  cases b with
  | true => exact iteT (rb H0 w1 Γ σ k1 f1 Q p1)
  | false => exact iteF (p1.now k1)
theorem rtt_or {ta tb : TT} {ma mb : EM} (ra : RTT K W ta ma) (rb : RTT K W tb mb) : RTT K W (tOr ta tb) (eOr ma mb) := by
  intro H0 w Γ σ ok f Q q
  refine ra.use ok f (P := fun w r => PostT K w r Q (at_ W σ)) (fun _ _ e k p => p.shift e k) (fun _ _ p => p) (fun p => p) (fun d st hb => by cases d <;> first | rfl | exact absurd rfl (hb _)) q fun b w1 e1 k1 f1 p1 => ?_
  cases b with
  | true => exact iteT (p1.now k1)
  | false => exact iteF (rb H0 w1 Γ σ k1 f1 Q p1)
theorem pw_and1' {a : Expr} {ma : EM} {pos : Pos} (h : PTt P wd K mg base k N sc W a ma) : PWt P wd K mg base k N sc W (.BoolOp .And [a] pos) ma := let ⟨t, p, r⟩ := h; ⟨t, fun X g => pw_and1 (p X g), r⟩
theorem pw_or1' {a : Expr} {ma : EM} {pos : Pos} (h : PTt P wd K mg base k N sc W a ma) : PWt P wd K mg base k N sc W (.BoolOp .Or [a] pos) ma := let ⟨t, p, r⟩ := h; ⟨t, fun X g => pw_or1 (p X g), r⟩
theorem pw_and' {a b : Expr} {rest : List Expr} {ma mb : EM} {pos : Pos} (h : PTt P wd K mg base k N sc W a ma) (h' : PWt P wd K mg base k N sc W (.BoolOp .And (b :: rest) pos) mb) : PWt P wd K mg base k N sc W (.BoolOp .And (a :: b :: rest) pos) (eAnd ma mb) :=
  let ⟨_, p, r⟩ := h; let ⟨_, p', r'⟩ := h'; ⟨_, fun X g => pw_and (p X g) (p' X g), rtt_and r r'⟩
theorem pw_or' {a b : Expr} {rest : List Expr} {ma mb : EM} {pos : Pos} (h : PTt P wd K mg base k N sc W a ma) (h' : PWt P wd K mg base k N sc W (.BoolOp .Or (b :: rest) pos) mb) : PWt P wd K mg base k N sc W (.BoolOp .Or (a :: b :: rest) pos) (eOr ma mb) :=
  let ⟨_, p, r⟩ := h; let ⟨_, p', r'⟩ := h'; ⟨_, fun X g => pw_or (p X g) (p' X g), rtt_or r r'⟩
theorem pt_w {e : Expr} {m : EM} (h : PWt P wd K mg base k N sc W e m) : PTt P wd K mg base k N sc W e m := let ⟨t, p, r⟩ := h; ⟨t, fun X g => (p X g).pt, r⟩
theorem pt_not'' {e : Expr} {m : EM} {pos : Pos} (h : PTt P wd K mg base k N sc W e m) : PTt P wd K mg base k N sc W (.UnaryOp .Not e pos) (eNot m) := pt_not' h
/-- and, or as values -/
theorem pr_one {op : BoolOp} {a : Expr} {ma : EM} {pos : Pos} (h : PR P wd K mg base k N sc W a ma) : PR P wd K mg base k N sc W (.BoolOp op [a] pos) ma := let ⟨t, p, r⟩ := h; ⟨t, fun X g => pe_one (p X g), r⟩
theorem rt_and {ta tb : TE} {ma mb : EM} (ra : RT K W ta ma) (rb : RT K W tb mb) : RT K W (tAndV ta tb) (eAnd ma mb) := by
  intro H0 w Γ σ ok f Q q
  refine ra.use ok f (P := fun w r => PostE K w r Q (at_ W σ)) (fun _ _ e k p => p.shift e k) (fun _ _ p => p) (fun p => p) q fun d v w1 e1 k1 f1 r p1 => ?_
  cases r with
  | @bl b =>
    refine ⟨b, rfl, ?_⟩
    cases b with
    | true => exact iteT (rb H0 w1 Γ σ k1 f1 Q p1)
    | false => exact iteF (p1.now k1 .bl)
  | _ => exact p1.elim
theorem rt_or {ta tb : TE} {ma mb : EM} (ra : RT K W ta ma) (rb : RT K W tb mb) : RT K W (tOrV ta tb) (eOr ma mb) := by
  intro H0 w Γ σ ok f Q q
  refine ra.use ok f (P := fun w r => PostE K w r Q (at_ W σ)) (fun _ _ e k p => p.shift e k) (fun _ _ p => p) (fun p => p) q fun d v w1 e1 k1 f1 r p1 => ?_
  cases r with
  | @bl b =>
    refine ⟨b, rfl, ?_⟩
    cases b with
    | true => exact iteT (p1.now k1 .bl)
    | false => exact iteF (rb H0 w1 Γ σ k1 f1 Q p1)
  | _ => exact p1.elim
theorem rt_not {ta : TE} {ma : EM} (ra : RT K W ta ma) : RT K W (tNotV ta) (eNot ma) := by
  intro H0 w Γ σ ok f Q q
  refine ra.use ok f (P := fun w r => PostE K w r Q (at_ W σ)) (fun _ _ e k p => p.shift e k) (fun _ _ p => p) (fun p => p) q fun d v w1 e1 k1 f1 r p1 => ?_
  cases r with
  | @bl b => exact ⟨b, rfl, p1.now k1 .bl⟩
  | _ => exact p1.elim
theorem pr_and {a b : Expr} {rest : List Expr} {ma mb : EM} {pos : Pos} (h : PR P wd K mg base k N sc W a ma) (h' : PR P wd K mg base k N sc W (.BoolOp .And (b :: rest) pos) mb) : PR P wd K mg base k N sc W (.BoolOp .And (a :: b :: rest) pos) (eAnd ma mb) :=
  let ⟨_, p, r⟩ := h; let ⟨_, p', r'⟩ := h'; ⟨_, fun X g => pe_and (p X g) (p' X g), rt_and r r'⟩
theorem pr_or {a b : Expr} {rest : List Expr} {ma mb : EM} {pos : Pos} (h : PR P wd K mg base k N sc W a ma) (h' : PR P wd K mg base k N sc W (.BoolOp .Or (b :: rest) pos) mb) : PR P wd K mg base k N sc W (.BoolOp .Or (a :: b :: rest) pos) (eOr ma mb) :=
  let ⟨_, p, r⟩ := h; let ⟨_, p', r'⟩ := h'; ⟨_, fun X g => pe_or (p X g) (p' X g), rt_or r r'⟩
theorem pr_not {a : Expr} {ma : EM} {pos : Pos} (h : PR P wd K mg base k N sc W a ma) : PR P wd K mg base k N sc W (.UnaryOp .Not a pos) (eNot ma) :=
  let ⟨_, p, r⟩ := h; ⟨_, fun X g => pe_not (p X g), rt_not r⟩
theorem pr_if {c a b : Expr} {mc ma mb : EM} {pos : Pos} (hc : PTt P wd K mg base k N sc W c mc) (ha : PR P wd K mg base k N sc W a ma) (hb : PR P wd K mg base k N sc W b mb) : PR P wd K mg base k N sc W (.IfExp c a b pos) (eIf mc ma mb) := by
  obtain ⟨tc, pc, rc⟩ := hc
  obtain ⟨ta, pa, ra⟩ := ha
  obtain ⟨tb, pb, rb⟩ := hb
  refine ⟨_, fun X g => pe_ifExp (pc X g) (pa X g) (pb X g), ?_⟩
  intro H0 w Γ σ ok f Q q
  refine RTT.use (P := fun w r => PostE K w r Q (at_ W σ)) rc ok f (fun _ _ e k p => p.shift e k) (fun _ _ p => p) (fun p => p) (fun d st hb => by cases d <;> first | rfl | exact absurd rfl (hb _)) q fun b w1 e1 k1 f1 p1 => ?_
  cases b with
  | true => exact iteT (ra H0 w1 Γ σ k1 f1 Q p1)
  | false => exact iteF (rb H0 w1 Γ σ k1 f1 Q p1)

/-! ### arguments, displays, calls -/
def eNil : EM := fun _ st => .ok (.tup []) st
def eCons (ma mr : EM) : EM := fun Γ st => (ma Γ st).bind fun d s => (mr Γ s).bind fun r s2 => match r with | .tup ds => .ok (.tup (d :: ds)) s2 | _ => .no
theorem pa_nil' : PAr P wd K mg base k N sc W [] eNil := ⟨_, fun X g => pa_nil, fun H0 w Γ σ ok f Q p => p [] w (Evo.refl w) ok rfl .nil⟩
theorem pa_cons' {e : Expr} {es : List Expr} {ma mr : EM} (ha : PR P wd K mg base k N sc W e ma) (hr : PAr P wd K mg base k N sc W es mr) (hs : ∀ env, starEach (e :: es) env = (false, eval e env) :: starEach es env := by intro _; rfl) :
    PAr P wd K mg base k N sc W (e :: es) (eCons ma mr) := by
  obtain ⟨ta, pa, ra⟩ := ha
  obtain ⟨tr, pr, rr⟩ := hr
  refine ⟨_, fun X g => pa_cons (pa X g) (pr X g) (hs X.env), ?_⟩
  intro H0 w Γ σ ok f Q q
  refine RT.use (P := fun w r => PostA K w r Q (at_ W σ)) ra ok f (fun _ _ e k p => p.shift e k) (fun _ _ p => p) (fun p => p) q fun d v w1 e1 k1 f1 r p1 => ?_
  refine RTA.use (P := fun w r => PostA K w r Q (at_ W σ)) rr k1 f1 (fun _ _ e k p => p.shift e k) (fun _ _ p => p) (fun p => p) (fun d st hb => by cases d <;> first | rfl | exact absurd rfl (hb _)) p1 fun ds vs w2 e2 k2 f2 r2 p2 => ?_
  exact p2 (v :: vs) w2 (Evo.refl w2) k2 rfl (.cons (r.evo e2) r2)
def eTup (ms : EM) : EM := fun Γ st => (ms Γ st).bind fun d s => match d with | .tup ds => if ds.length ≤ 16777216 then .ok (.tup ds) s else .no | _ => .no
def eLst (ms : EM) : EM := fun Γ st => (ms Γ st).bind fun d s => match d with | .tup ds => if ds.length ≤ 16777216 then .ok (.lst ds) s else .no | _ => .no
theorem pr_tup {es : List Expr} {ms : EM} {x1 : Nat} {pos : Pos} (h : PAr P wd K mg base k N sc W es ms) : PR P wd K mg base k N sc W (.Tuple es x1 pos) (eTup ms) := by
  obtain ⟨t, p, r⟩ := h
  refine ⟨_, fun X g => pe_tup (p X g), ?_⟩
  intro H0 w Γ σ ok f Q q
  refine RTA.use (P := fun w r => PostE K w r Q (at_ W σ)) r ok f (fun _ _ e k p => p.shift e k) (fun _ _ p => p) (fun p => p) (fun d st hb => by cases d <;> first | rfl | exact absurd rfl (hb _)) q fun ds vs w1 e1 k1 f1 r1 p1 => ?_
  simp only at p1
  split at p1
  · rename_i hl
    exact ⟨by rw [r1.1, sizeLine_eq]; exact hl, fun a ha => p1.tup rfl k1 r1 a ha⟩
  · exact p1.elim
theorem pr_lst {es : List Expr} {ms : EM} {pos : Pos} (h : PAr P wd K mg base k N sc W es ms) : PR P wd K mg base k N sc W (.List es pos) (eLst ms) := by
  obtain ⟨t, p, r⟩ := h
  refine ⟨_, fun X g => pe_lst (p X g), ?_⟩
  intro H0 w Γ σ ok f Q q
  refine RTA.use (P := fun w r => PostE K w r Q (at_ W σ)) r ok f (fun _ _ e k p => p.shift e k) (fun _ _ p => p) (fun p => p) (fun d st hb => by cases d <;> first | rfl | exact absurd rfl (hb _)) q fun ds vs w1 e1 k1 f1 r1 p1 => ?_
  simp only at p1
  split at p1
  · rename_i hl
    exact ⟨by rw [r1.1, sizeLine_eq]; exact hl, fun a ha => p1.lst rfl k1 r1 a ha⟩
  · exact p1.elim

/-- a def of data: what it does of its arguments and the store -/
abbrev DF := List D → Store → ER
def spD (K : PySem.W.Frag) (F : DF) : Sp := fun vs H Q E => ∃ (w : Wd) (ds : List D), w.H = H ∧ Ok K w ∧ RepL K w vs ds ∧ PostE K w (F ds w.st) Q E
structure Fn (P : Program) (wd : World) (K : PySem.W.Frag) (mg : Str → Option Value) (base : Heap) (k : Nat) (x : Str) (F : DF) : Prop where
  ex : ∃ (f : Addr) (fd : FuncData) (ps : List Str), FnG P wd K mg base k f fd ps (spD K F) ∧ mg x = some (.ref f) ∧ PySem.W.keepIn K (.ref f) = true ∧ Binds K fd ps []
def eCall (F : DF) (ms : EM) : EM := fun Γ st => (ms Γ st).bind fun d s => match d with | .tup ds => F ds s | _ => .no
theorem rt_call {F : DF} {t : TA} {ms : EM} (r : RTA K W t ms) : RT K W (tCallS (spD K F) (WE W) t) (eCall F ms) := by
  intro H0 w Γ σ ok f Q q
  refine RTA.use (P := fun w r => PostE K w r Q (at_ W σ)) r ok f (fun _ _ e k p => p.shift e k) (fun _ _ p => p) (fun p => p) (fun d st hb => by cases d <;> first | rfl | exact absurd rfl (hb _)) q fun ds vs w1 e1 k1 f1 r1 p1 => ?_
  exact ⟨w1, ds, rfl, k1, r1, p1⟩
theorem pr_call {j : Nat} {x : Str} {F : DF} {e : Expr} {es : List Expr} {ms : EM} {p pos : Pos} (c : Fn P wd K mg base j x F) (ha : PAr P wd K mg base k N sc W (e :: es) ms) (hk : j ≤ k := by decide) (hg : sc.s.names.lookup x = some .globalImplicit := by rfl)
    (hdb : (x == ("__debug__" : Str)) = false := by decide) (he : ∀ env, starEach (e :: es) env = (false, eval e env) :: starEach es env := by intro _; rfl) (hpl : ∀ env, (backTo pos (starEach es env)).any (·.1) = false := by intro _; rfl) :
    PR P wd K mg base k N sc W (.Call (.Name x p) (e :: es) [] pos) (eCall F ms) := by
  obtain ⟨f, fd, ps, F1, hm, hk1, hb⟩ := c.ex
  obtain ⟨t, pt, r⟩ := ha
  refine ⟨_, fun X g => ?_, rt_call r⟩
  have pa := pt X g
  obtain ⟨rfl, rfl, rfl, rfl, rfl, rfl, hsc, hc, hr, hgd, tk, _, _⟩ := g
  refine ⟨fun pins s σ H Q I want => ?_⟩
  have gl : Gl X x := by unfold Gl PySem.Env.kindOf; rw [hsc]; exact hg
  refine wpAny_Call_Name_kw (ld_glob (Q := _) I gl hm ?_ hdb)
  refine PySem.W.callWith_K (h₀ := X.base) I.ok.mod.kin hk1 (thn (pa.run pos pins s σ H _ I want) ?_) (he X.env) (hpl X.env)
  rintro us s1 ⟨vs, H1, I1, r1, q⟩
  refine ⟨I1.kIn, wpAny_call ?_⟩
  have hl : us.length = ps.length := by rw [← r1.length]; exact F1.len _ _ _ _ q
  have bd := hb s1 us I1.kIn (by rw [List.append_nil]; exact hl)
  rw [List.append_nil] at bd
  exact call_g (E := WE W) F1 ⟨hr.mono hk, hgd⟩ ⟨[] ++ us, []⟩ bd (passAt tk σ) I1 r1 q (fun _ _ z => z) fun _ _ z => z
end
end DL
namespace DL
open PySem L2
section
variable {P : Program} {wd : World} {K : PySem.W.Frag} {mg : Str → Option Value} {base : Heap} {k : Nat} {N : List Str} {sc : SC} {W : WX}

/-! ### statements -/
def sSkip : SM := fun Γ st => .nx Γ st
def sSeq (a b : SM) : SM := fun Γ st => (a Γ st).bind b
def sDrop (m : EM) : SM := fun Γ st => (m Γ st).bs Γ fun _ s => .nx Γ s
def sRet (m : EM) : SM := fun Γ st => (m Γ st).bs Γ fun d s => .ret d s
def sRetN : SM := fun _ st => .ret .non st
def sIf (c : EM) (a b : SM) : SM := fun Γ st => (c Γ st).bs Γ fun d s => match d with | .bl true => a Γ s | .bl false => b Γ s | _ => .no
def sAsg (i : Nat) (m : EM) : SM := fun Γ st => (m Γ st).bs Γ fun d s => .nx (Γ.set i (.sh d)) s
def sBreak : SM := fun Γ st => .bk Γ st
def sCont : SM := fun Γ st => .ct Γ st

theorem fr_set {H0 : Hp} {w : Wd} {Γ : DEnv} {σ : L2.St} (f : Fr K H0 w Γ σ) {v : V} {d : D} (r : Rep K w v d) (i : Nat) : Fr K H0 w (Γ.set i (.sh d)) (σ.set i (some v)) where
  len := by simp [f.len]
  sh := fun j e h => by
    by_cases q : i = j
    · subst q
      have hl : i < Γ.length := by have := (List.getElem?_eq_some_iff.mp h).1; simpa using this
      rw [List.getElem?_set_self hl] at h
      cases h
      exact ⟨v, List.getElem?_set_self (by rw [f.len]; exact hl), r⟩
    · rw [List.getElem?_set_ne q] at h ⊢; exact f.sh j e h
  ow := fun j e h => by
    by_cases q : i = j
    · subst q
      have hl : i < Γ.length := by have := (List.getElem?_eq_some_iff.mp h).1; simpa using this
      rw [List.getElem?_set_self hl] at h
      cases h
    · rw [List.getElem?_set_ne q] at h ⊢; exact f.ow j e h
  dj := fun a b d1 d2 x ne h1 h2 h3 h4 => by
    have na : i ≠ a := fun q => by
      subst q
      have hl : i < Γ.length := by have := (List.getElem?_eq_some_iff.mp h1).1; simpa using this
      rw [List.getElem?_set_self hl] at h1; cases h1
    have nb : i ≠ b := fun q => by
      subst q
      have hl : i < Γ.length := by have := (List.getElem?_eq_some_iff.mp h2).1; simpa using this
      rw [List.getElem?_set_self hl] at h2; cases h2
    rw [List.getElem?_set_ne na] at h1 h3
    rw [List.getElem?_set_ne nb] at h2 h4
    exact f.dj a b d1 d2 x ne h1 h2 h3 h4

theorem ps_nil' : PSl P wd K mg base k N sc W [] sSkip := ⟨_, fun X g => pss_nil, fun w0 w Γ σ e ok f D p => p w σ e (Ext.refl w) ok rfl f⟩
theorem rts_seq {t u : TS} {a b : SM} (ra : RTS K W t a) (rb : RTS K W u b) : RTS K W (tSeq t u) (sSeq a b) := by
  intro w0 w Γ σ e0 ok f Dn p
  refine ra w0 w Γ σ e0 ok f _ ?_
  have p' : PostS K w0 w ((a Γ w.st).bind b) Dn W := p
  cases h : a Γ w.st with
  | nx Γ' st' => rw [h] at p'; exact fun w' σ' e1 x1 k1 s1 f1 => rb w0 w' Γ' σ' e1 k1 f1 Dn (by rw [s1]; exact p'.shift x1)
  | ret d st' => rw [h] at p'; exact p'
  | bk Γ' st' => rw [h] at p'; exact p'
  | ct Γ' st' => rw [h] at p'; exact p'
  | err x Γ' st' => rw [h] at p'; exact p'
  | no => rw [h] at p'; exact p'
theorem ps_cons' {s : Stmt} {ss : List Stmt} {a b : SM} (ha : PSt P wd K mg base k N sc W s a) (hb : PSl P wd K mg base k N sc W ss b) : PSl P wd K mg base k N sc W (s :: ss) (sSeq a b) :=
  let ⟨_, p, r⟩ := ha; let ⟨_, p', r'⟩ := hb; ⟨_, fun X g => pss_cons (p X g) (p' X g), rts_seq r r'⟩
theorem ps_one' {s : Stmt} {a : SM} (ha : PSt P wd K mg base k N sc W s a) : PSl P wd K mg base k N sc W [s] a := let ⟨_, p, r⟩ := ha; ⟨_, fun X g => pss_one (p X g), r⟩
theorem ps_pass' {pos : Pos} : PSt P wd K mg base k N sc W (.Pass pos) sSkip := ⟨_, fun X g => ps_pass, fun w0 w Γ σ e ok f D p => p w σ e (Ext.refl w) ok rfl f⟩
theorem ps_break' {pos : Pos} : PSt P wd K mg base k N sc W (.Break pos) sBreak := ⟨_, fun X g => ps_break, fun w0 w Γ σ e ok f D p => p w σ e (Ext.refl w) ok rfl f⟩
theorem ps_cont' {pos : Pos} : PSt P wd K mg base k N sc W (.Continue pos) sCont := ⟨_, fun X g => ps_continue, fun w0 w Γ σ e ok f D p => p w σ e (Ext.refl w) ok rfl f⟩
theorem ps_expr' {e : Expr} {m : EM} {pos : Pos} (h : PR P wd K mg base k N sc W e m) (hs : ∀ env, swapsWith e none pos.line env = pure false := by intro _; rfl) : PSt P wd K mg base k N sc W (.Expr e pos) (sDrop m) := by
  obtain ⟨t, p, r⟩ := h
  refine ⟨_, fun X g => ps_expr (p X g) (hs X.env), ?_⟩
  intro w0 w Γ σ e0 ok f Dn q
  exact r.useS e0 ok f q fun d v w1 e1 k1 f1 r1 x1 p1 => p1 w1 σ e1 (Ext.refl w1) k1 rfl f1
theorem ps_ret' {e : Expr} {m : EM} {pos : Pos} (h : PR P wd K mg base k N sc W e m) : PSt P wd K mg base k N sc W (.Return (some e) pos) (sRet m) := by
  obtain ⟨t, p, r⟩ := h
  refine ⟨_, fun X g => ps_ret (p X g), ?_⟩
  intro w0 w Γ σ e0 ok f Dn q
  exact r.useS e0 ok f q fun d v w1 e1 k1 f1 r1 x1 p1 => p1 v w1 e1 k1 rfl r1
theorem ps_retN' {pos : Pos} : PSt P wd K mg base k N sc W (.Return none pos) sRetN := ⟨_, fun X g => ps_retN, fun w0 w Γ σ e ok f D p => p .non w e ok rfl .non⟩
theorem ps_if' {c : Expr} {a b : List Stmt} {mc : EM} {ma mb : SM} {pos : Pos} (hc : PTt P wd K mg base k N sc W c mc) (ha : PSl P wd K mg base k N sc W a ma) (hb : PSl P wd K mg base k N sc W b mb) : PSt P wd K mg base k N sc W (.If c a b pos) (sIf mc ma mb) := by
  obtain ⟨tc, pc, rc⟩ := hc
  obtain ⟨ta, pa, ra⟩ := ha
  obtain ⟨tb, pb, rb⟩ := hb
  refine ⟨_, fun X g => ps_if (pc X g) (pa X g) (pb X g), ?_⟩
  intro w0 w Γ σ e0 ok f Dn q
  refine rc.useS e0 ok f q (fun d st hb => by cases d <;> first | rfl | exact absurd rfl (hb _)) fun b w1 e1 k1 f1 x1 p1 => ?_
  cases b with
  | true => exact iteT (ra w0 w1 Γ σ e1 k1 f1 Dn p1)
  | false => exact iteF (rb w0 w1 Γ σ e1 k1 f1 Dn p1)
theorem ps_asg' (i : Nat) {x : Str} {e : Expr} {m : EM} {pos pos' : Pos} (nd : N.Nodup) (h : PR P wd K mg base k N sc W e m) (hi : N[i]? = some x := by rfl) (hx : Loc sc.s x := by first | exact Or.inl rfl | exact Or.inr rfl) (hf : sc.fn x = true ∨ sc.s.names.lookup x = some .local := by first | exact Or.inl rfl | exact Or.inr rfl)
    (hs : ∀ env, swapsWith e (some (.Name x pos')) pos.line env = pure false := by intro _; rfl) (hw : ∀ env, swappedStores [.Name x pos'] e env = pure none := by intro _; rfl) (hn : ∀ env, swapsWithSole [.Name x pos'] e pos.line env = pure false := by intro _; rfl) :
    PSt P wd K mg base k N sc W (.Assign [.Name x pos'] e pos) (sAsg i m) := by
  obtain ⟨t, p, r⟩ := h
  refine ⟨tAsg t (gName i), fun X g => ps_asg (p X g) (pg_name (by rw [g.nn]; exact nd) (by rw [g.nn]; exact hi) (by rw [g.scp]; exact hx) ?_) (hn X.env) (hw X.env), ?_⟩
  · rw [g.fnc, g.scp]; exact hf
  intro w0 w Γ σ e0 ok f Dn q
  exact r.useS e0 ok f q fun d v w1 e1 k1 f1 r1 x1 p1 => p1 w1 _ e1 (Ext.refl w1) k1 rfl (fr_set f1 r1 i)

/-! ### a def -/
def initE (N : List Str) (ds : List D) : DEnv := ds.map Sl.sh ++ List.replicate (N.length - ds.length) Sl.no
def fin (r : SR) : ER := match r with
  | .nx _ st => .ok .non st
  | .ret d st => .ok d st
  | .err x _ st => .err x st
  | _ => .no
def run (N ps : List Str) (m : SM) : DF := fun ds st => if ds.length = ps.length then fin (m (initE N ds) st) else .no
theorem fr_init {w : Wd} {vs : List V} {ds : List D} (r : RepL K w vs ds) (N : List Str) : Fr K w.H w (initE N ds) (L2.start N vs) where
  len := by simp [initE, L2.start, r.1]
  sh := fun i d h => by
    unfold initE at h
    unfold L2.start
    by_cases q : i < ds.length
    · rw [List.getElem?_append_left (by simpa using q), List.getElem?_map] at h
      cases e : ds[i]? with
      | none => rw [e] at h; cases h
      | some d' =>
        rw [e] at h
        cases h
        obtain ⟨v, hv, rv⟩ := r.get e
        refine ⟨v, ?_, rv⟩
        rw [List.getElem?_append_left (by simpa [r.1] using q), List.getElem?_map, hv]
        all_goals rfl
    · rw [List.getElem?_append_right (by simpa using q)] at h
      have := List.mem_of_getElem? h
      simp at this
  ow := fun i d h => by
    unfold initE at h
    have := List.mem_of_getElem? h
    simp at this
  dj := fun i j d e a ne h => by
    unfold initE at h
    have := List.mem_of_getElem? h
    simp at this
/-- a def keeps its promise: it does what its body does of the data -/
theorem def_ok {x qual : Str} {st : Stmt} {f : Addr} {fd : FuncData} {ps : List Str} {m : SM} (F : Fun K x qual st f fd) (S : FnScope N ps (defScope st)) (h : ∀ W : WX, PSl P wd K mg base k N ⟨defScope st, fun _ => true⟩ W (defBody st) m) :
    FnG P wd K mg base (k + 1) f fd ps (spD K (run N ps m)) := by
  refine FnG.mk' F S (fun vs H Q E h => ?_) (fun cdv A outer s H vs Q E hr h' => ?_)
  · obtain ⟨w, ds, rfl, ok, r, p⟩ := h
    unfold run at p
    split at p
    · rename_i q; rw [r.1, q]
    · exact p.elim
  · obtain ⟨w, ds, rfl, ok, r, p⟩ := h'
    unfold run at p
    split at p
    · obtain ⟨t, pt, rt⟩ := h (fun cls d _ H => E cls d H)
      refine ⟨t, pt _ ⟨rfl, rfl, rfl, rfl, rfl, rfl, rfl, rfl, hr.1, hr.2, takes_of rfl rfl rfl rfl, passes_of rfl, rfl⟩, ?_⟩
      refine rt w w _ _ (Evo.refl w) ok (fr_init r N) _ ?_
      cases e : m (initE N ds) w.st with
      | nx Γ st' => rw [e] at p; exact fun w' σ e1 x1 k1 s1 f1 => p .non w' e1 k1 s1 .non
      | ret d st' => rw [e] at p; exact fun v w' e1 k1 s1 r1 => p v w' e1 k1 s1 r1
      | err x Γ st' => rw [e] at p; exact fun c dd w' σ e1 x1 k1 s1 f1 r1 => p c dd w' e1 k1 s1 r1
      | bk Γ st' => rw [e] at p; exact p.elim
      | ct Γ st' => rw [e] at p; exact p.elim
      | no => rw [e] at p; exact p.elim
    · exact p.elim
/-- a def by a function of one's own -/
theorem FnG.as {f : Addr} {fd : FuncData} {ps : List Str} {F F' : DF} (h : FnG P wd K mg base k f fd ps (spD K F)) (e : ∀ ds st, F' ds st ≠ .no → F ds st = F' ds st) : FnG P wd K mg base k f fd ps (spD K F') :=
  h.imp fun vs H Q E ⟨w, ds, a, b, c, p⟩ => ⟨w, ds, a, b, c, by
    rw [e ds w.st]
    · exact p
    · intro z; rw [z] at p; exact p⟩
end
end DL
namespace DL
open PySem L2

theorem PostE.ite {K : PySem.W.Frag} {w : Wd} {c : Prop} [Decidable c] {r : ER} {Q : VK} {E : XK} (p : PostE K w (if c then r else .no) Q E) : c ∧ PostE K w r Q E := by
  by_cases h : c
  · rw [if_pos h] at p; exact ⟨h, p⟩
  · rw [if_neg h] at p; exact p.elim
theorem PostB.ite {K : PySem.W.Frag} {w : Wd} {Γ : DEnv} {σ : L2.St} {c : Prop} [Decidable c] {r : ER} {Q : VK} {E : XK} (p : PostB K w Γ σ (if c then r else .no) Q E) : c ∧ PostB K w Γ σ r Q E := by
  by_cases h : c
  · rw [if_pos h] at p; exact ⟨h, p⟩
  · rw [if_neg h] at p; exact p.elim

/-! ### arithmetic -/
def oAdd : D → D → Store → ER
  | .int i, .int j, st => .ok (.int (i + j)) st
  | .str a, .str b, st => if a.length + b.length ≤ 16777216 then .ok (.str (a ++ b)) st else .no
  | .lst a, .lst b, st => if a.length + b.length ≤ 16777216 then .ok (.lst (a ++ b)) st else .no
  | _, _, _ => .no
def oSub : D → D → Store → ER
  | .int i, .int j, st => .ok (.int (i - j)) st
  | _, _, _ => .no
def oMul : D → D → Store → ER
  | .int i, .int j, st => if (-18446744073709551616 < i ∧ i < 18446744073709551616) ∨ (-18446744073709551616 < j ∧ j < 18446744073709551616) then .ok (.int (i * j)) st else .no
  | _, _, _ => .no
def oFdiv : D → D → Store → ER
  | .int i, .int j, st => if 0 < j ∧ j < 1073741824 then .ok (.int (i / j)) st else .no
  | _, _, _ => .no
def oMod : D → D → Store → ER
  | .int i, .int j, st => if 0 < j then .ok (.int (i % j)) st else .no
  | _, _, _ => .no
def oPow : D → D → Store → ER
  | .int i, .int j, st => if 0 ≤ j ∧ j ≤ 1000000 ∧ i.natAbs < 18446744073709551616 then .ok (.int (i ^ j.toNat)) st else .no
  | _, _, _ => .no
def oLt : D → D → Store → ER
  | .int i, .int j, st => .ok (.bl (decide (i < j))) st
  | .str a, .str b, st => .ok (.bl (decide (a.cps.toList < b.cps.toList))) st
  | _, _, _ => .no
def oGt : D → D → Store → ER
  | .int i, .int j, st => .ok (.bl (decide (j < i))) st
  | .str a, .str b, st => .ok (.bl (decide (b.cps.toList < a.cps.toList))) st
  | _, _, _ => .no
def oLe : D → D → Store → ER
  | .int i, .int j, st => .ok (.bl (decide (i ≤ j))) st
  | .str a, .str b, st => .ok (.bl (!decide (b.cps.toList < a.cps.toList))) st
  | _, _, _ => .no
def oGe : D → D → Store → ER
  | .int i, .int j, st => .ok (.bl (decide (j ≤ i))) st
  | .str a, .str b, st => .ok (.bl (!decide (a.cps.toList < b.cps.toList))) st
  | _, _, _ => .no
def oIsN : D → D → Store → ER
  | .non, .non, st => .ok (.bl true) st
  | _, .non, st => .ok (.bl false) st
  | _, _, _ => .no
def oNotN : D → D → Store → ER
  | .non, .non, st => .ok (.bl false) st
  | _, .non, st => .ok (.bl true) st
  | _, _, _ => .no

section
variable {P : Program} {wd : World} {K : PySem.W.Frag} {mg : Str → Option Value} {base : Heap} {k : Nat} {N : List Str} {sc : SC} {W : WX}
def rOr (r r' : R2) : R2 := fun x y H Q => r x y H Q ∨ r' x y H Q
theorem OpR.or' {X : Cx} {f : Value → Value → Sem Value} {r r' : R2} (h : OpR X f r) (h' : OpR X f r') : OpR X f (rOr r r') := OpR.or h h'
theorem pr_add {a b : Expr} {ma mb : EM} {pos : Pos} (ha : PB P wd K mg base k N sc W a ma) (hb : PB P wd K mg base k N sc W b mb) : PR P wd K mg base k N sc W (.BinOp a .Add b pos) (eOp oAdd ma mb) :=
  pr_op (fun X g => OpR.or' op_add (OpR.or' op_add_str op_cat)) (fun w x y dx dy Q E k vx vy p => by
    cases dx <;> cases dy <;> try exact p.elim
    case int.int i j => obtain rfl := vx; obtain rfl := vy; exact .inl ⟨i, j, rfl, rfl, p.now k .int⟩
    case str.str a b => obtain rfl := vx; obtain rfl := vy; obtain ⟨h, p⟩ := PostE.ite p; exact .inr (.inl ⟨a, b, rfl, rfl, by rw [sizeLine_eq]; exact h, p.now k .str⟩)
    case lst.lst a b =>
      obtain ⟨p1, vs, rfl, h1, r1⟩ := vx; obtain ⟨p2, us, rfl, h2, r2⟩ := vy
      obtain ⟨h, p⟩ := PostE.ite p
      exact .inr (.inr ⟨p1, p2, vs, us, rfl, rfl, h1, h2, by rw [sizeLine_eq, r1.1, r2.1]; exact h, fun c hc => p.lst rfl k (r1.append r2) c hc⟩)) ha hb
theorem pr_sub {a b : Expr} {ma mb : EM} {pos : Pos} (ha : PB P wd K mg base k N sc W a ma) (hb : PB P wd K mg base k N sc W b mb) : PR P wd K mg base k N sc W (.BinOp a .Sub b pos) (eOp oSub ma mb) :=
  pr_op (fun X g => op_sub) (fun w x y dx dy Q E k vx vy p => by
    cases dx <;> cases dy <;> try exact p.elim
    case int.int i j => obtain rfl := vx; obtain rfl := vy; exact ⟨i, j, rfl, rfl, p.now k .int⟩) ha hb
theorem pr_mul {a b : Expr} {ma mb : EM} {pos : Pos} (ha : PB P wd K mg base k N sc W a ma) (hb : PB P wd K mg base k N sc W b mb) : PR P wd K mg base k N sc W (.BinOp a .Mult b pos) (eOp oMul ma mb) :=
  pr_op (fun X g => op_mul) (fun w x y dx dy Q E k vx vy p => by
    cases dx <;> cases dy <;> try exact p.elim
    case int.int i j => obtain rfl := vx; obtain rfl := vy; obtain ⟨h, p⟩ := PostE.ite p; exact ⟨i, j, rfl, rfl, h, p.now k .int⟩) ha hb
theorem pr_fdiv {a b : Expr} {ma mb : EM} {pos : Pos} (ha : PB P wd K mg base k N sc W a ma) (hb : PB P wd K mg base k N sc W b mb) : PR P wd K mg base k N sc W (.BinOp a .FloorDiv b pos) (eOp oFdiv ma mb) :=
  pr_op (fun X g => op_fdiv) (fun w x y dx dy Q E k vx vy p => by
    cases dx <;> cases dy <;> try exact p.elim
    case int.int i j => obtain rfl := vx; obtain rfl := vy; obtain ⟨h, p⟩ := PostE.ite p; exact ⟨i, j, rfl, rfl, h, p.now k .int⟩) ha hb
theorem pr_mod {a b : Expr} {ma mb : EM} {pos : Pos} (ha : PB P wd K mg base k N sc W a ma) (hb : PB P wd K mg base k N sc W b mb) : PR P wd K mg base k N sc W (.BinOp a .Mod b pos) (eOp oMod ma mb) :=
  pr_op (fun X g => op_mod) (fun w x y dx dy Q E k vx vy p => by
    cases dx <;> cases dy <;> try exact p.elim
    case int.int i j => obtain rfl := vx; obtain rfl := vy; obtain ⟨h, p⟩ := PostE.ite p; exact ⟨i, j, rfl, rfl, h, p.now k .int⟩) ha hb
theorem pr_pow {a b : Expr} {ma mb : EM} {pos : Pos} (ha : PB P wd K mg base k N sc W a ma) (hb : PB P wd K mg base k N sc W b mb) : PR P wd K mg base k N sc W (.BinOp a .Pow b pos) (eOp oPow ma mb) :=
  pr_op (fun X g => op_pow) (fun w x y dx dy Q E k vx vy p => by
    cases dx <;> cases dy <;> try exact p.elim
    case int.int i j => obtain rfl := vx; obtain rfl := vy; obtain ⟨h, p⟩ := PostE.ite p; exact ⟨i, j, rfl, rfl, h, p.now k .int⟩) ha hb

/-! ### comparisons: the rule, what it wants of the data -/
theorem od_lt : OpD K (rOr (rI0 fun i j => .bl (decide (i < j))) (fun x y H Q => ∃ i j, x = .str i ∧ y = .str j ∧ Q (.bl (decide (i.cps.toList < j.cps.toList))) H)) oLt := fun w x y dx dy Q E k vx vy p => by
  cases dx <;> cases dy <;> try exact p.elim
  case int.int i j => obtain rfl := vx; obtain rfl := vy; exact .inl ⟨i, j, rfl, rfl, p.now k .bl⟩
  case str.str i j => obtain rfl := vx; obtain rfl := vy; exact .inr ⟨i, j, rfl, rfl, p.now k .bl⟩
theorem od_gt : OpD K (rOr (rI0 fun i j => .bl (decide (j < i))) (fun x y H Q => ∃ i j, x = .str i ∧ y = .str j ∧ Q (.bl (decide (j.cps.toList < i.cps.toList))) H)) oGt := fun w x y dx dy Q E k vx vy p => by
  cases dx <;> cases dy <;> try exact p.elim
  case int.int i j => obtain rfl := vx; obtain rfl := vy; exact .inl ⟨i, j, rfl, rfl, p.now k .bl⟩
  case str.str i j => obtain rfl := vx; obtain rfl := vy; exact .inr ⟨i, j, rfl, rfl, p.now k .bl⟩
theorem od_le : OpD K (rOr (rI0 fun i j => .bl (decide (i ≤ j))) (fun x y H Q => ∃ i j, x = .str i ∧ y = .str j ∧ Q (.bl (!decide (j.cps.toList < i.cps.toList))) H)) oLe := fun w x y dx dy Q E k vx vy p => by
  cases dx <;> cases dy <;> try exact p.elim
  case int.int i j => obtain rfl := vx; obtain rfl := vy; exact .inl ⟨i, j, rfl, rfl, p.now k .bl⟩
  case str.str i j => obtain rfl := vx; obtain rfl := vy; exact .inr ⟨i, j, rfl, rfl, p.now k .bl⟩
theorem od_ge : OpD K (rOr (rI0 fun i j => .bl (decide (j ≤ i))) (fun x y H Q => ∃ i j, x = .str i ∧ y = .str j ∧ Q (.bl (!decide (i.cps.toList < j.cps.toList))) H)) oGe := fun w x y dx dy Q E k vx vy p => by
  cases dx <;> cases dy <;> try exact p.elim
  case int.int i j => obtain rfl := vx; obtain rfl := vy; exact .inl ⟨i, j, rfl, rfl, p.now k .bl⟩
  case str.str i j => obtain rfl := vx; obtain rfl := vy; exact .inr ⟨i, j, rfl, rfl, p.now k .bl⟩
theorem Vw.nn {w : Wd} {x : V} {dx : D} (v : Vw K w x dx) : decide (x = .non) = (match dx with | .non => true | _ => false) := by
  cases dx with
  | non => obtain rfl := v; rfl
  | bl b => obtain rfl := v; rfl
  | int b => obtain rfl := v; rfl
  | str b => obtain rfl := v; rfl
  | ty b => obtain rfl := v; rfl
  | cls b => obtain rfl := v; rfl
  | opq => obtain ⟨_, rfl⟩ := v; rfl
  | tomb => obtain ⟨_, rfl⟩ := v; rfl
  | tup xs => obtain ⟨_, _, rfl, _⟩ := v; rfl
  | lst xs => obtain ⟨_, _, rfl, _⟩ := v; rfl
  | dct xs => obtain ⟨_, _, rfl, _⟩ := v; rfl
  | ins C xs => obtain ⟨_, _, _, rfl, _⟩ := v; rfl
  | ref l => obtain ⟨rfl, _⟩ := v; rfl
  | scr ns => obtain ⟨_, rfl, _⟩ := v; rfl
theorem od_isN : OpD K (fun x y H Q => y = .non ∧ Q (.bl (decide (x = .non))) H) oIsN := fun w x y dx dy Q E k vx vy p => by
  have e := vx.nn
  cases dy <;> try (cases dx <;> exact p.elim)
  obtain rfl := vy
  show V.non = V.non ∧ Q (.bl (decide (x = .non))) w.H
  rw [e]
  refine ⟨rfl, ?_⟩
  cases dx <;> exact p.now k .bl
theorem od_notN : OpD K (fun x y H Q => y = .non ∧ Q (.bl (!decide (x = .non))) H) oNotN := fun w x y dx dy Q E k vx vy p => by
  have e := vx.nn
  cases dy <;> try (cases dx <;> exact p.elim)
  obtain rfl := vy
  show V.non = V.non ∧ Q (.bl (!decide (x = .non))) w.H
  rw [e]
  refine ⟨rfl, ?_⟩
  cases dx <;> exact p.now k .bl

/-! ### data -/
mutual
def D.py : D → Option PyData
  | .non => some .none
  | .bl b => some (.bool b)
  | .int i => some (.int i)
  | .str x => some (.str x)
  | .lst xs => (D.pyL xs).map .list
  | .tup xs => (D.pyL xs).map .tuple
  | _ => none
def D.pyL : List D → Option (List PyData)
  | [] => some []
  | x :: xs => match D.py x, D.pyL xs with
    | some d, some ds => some (d :: ds)
    | _, _ => none
end
mutual
theorem rep_dp {w : Wd} (k : Ok K w) : ∀ (d : D) (v : V) (e : PyData), Rep K w v d → d.py = some e → Dp K w.H v e
  | .non, _, _, r, h => by cases r; cases h; exact .non
  | .bl b, _, _, r, h => by cases r; cases h; exact .bl b
  | .int i, _, _, r, h => by cases r; cases h; exact .int i
  | .str x, _, _, r, h => by cases r; cases h; exact .str x
  | .lst xs, _, _, r, h => by
    cases r with
    | lst m l z =>
      cases q : D.pyL xs with
      | none => simp [D.py, q] at h
      | some es =>
        simp only [D.py, q, Option.map_some, Option.some.injEq] at h
        subst h
        exact .lst (SqL.of (k.ex _ _ m)) (repL_dp k xs _ es ⟨l, z⟩ q)
  | .tup xs, _, _, r, h => by
    cases r with
    | tup m l z =>
      cases q : D.pyL xs with
      | none => simp [D.py, q] at h
      | some es =>
        simp only [D.py, q, Option.map_some, Option.some.injEq] at h
        subst h
        exact .tup (k.sqT m) (repL_dp k xs _ es ⟨l, z⟩ q)
  | .dct _, _, _, _, h => by simp [D.py] at h
  | .ins _ _, _, _, _, h => by simp [D.py] at h
  | .ref _, _, _, _, h => by simp [D.py] at h
  | .scr _, _, _, _, h => by simp [D.py] at h
  | .ty _, _, _, _, h => by simp [D.py] at h
  | .cls _, _, _, _, h => by simp [D.py] at h
  | .opq, _, _, _, h => by simp [D.py] at h
  | .tomb, _, _, _, h => by simp [D.py] at h
theorem repL_dp {w : Wd} (k : Ok K w) : ∀ (ds : List D) (vs : List V) (es : List PyData), RepL K w vs ds → D.pyL ds = some es → DpAll K w.H vs es
  | [], _, _, r, h => by rw [r.inv0]; simp only [D.pyL, Option.some.injEq] at h; subst h; exact .nil
  | d :: ds, _, _, r, h => by
    obtain ⟨v, vs, rfl, r1, r2⟩ := r.inv
    unfold D.pyL at h
    cases q1 : D.py d with
    | none => rw [q1] at h; cases h
    | some e =>
      cases q2 : D.pyL ds with
      | none => rw [q1, q2] at h; cases h
      | some es =>
        rw [q1, q2] at h
        cases h
        exact .cons (rep_dp k d v e r1 q1) (repL_dp k ds vs es r2 q2)
end
/-- .. read -/
theorem vw_dp {w : Wd} (k : Ok K w) {d : D} {v : V} {e : PyData} (r : Vw K w v d) (h : d.py = some e) : Dp K w.H v e := by
  cases d with
  | non => obtain rfl := r; cases h; exact .non
  | bl b => obtain rfl := r; cases h; exact .bl b
  | int i => obtain rfl := r; cases h; exact .int i
  | str x => obtain rfl := r; cases h; exact .str x
  | lst xs =>
    obtain ⟨a, vs, rfl, m, z⟩ := r
    cases q : D.pyL xs with
    | none => simp [D.py, q] at h
    | some es =>
      simp only [D.py, q, Option.map_some, Option.some.injEq] at h
      subst h
      exact .lst (SqL.of m) (repL_dp k xs _ es z q)
  | tup xs =>
    obtain ⟨a, vs, rfl, m, z⟩ := r
    cases q : D.pyL xs with
    | none => simp [D.py, q] at h
    | some es =>
      simp only [D.py, q, Option.map_some, Option.some.injEq] at h
      subst h
      exact .tup m (repL_dp k xs _ es z q)
  | _ => simp [D.py] at h
/-- scalars -/
def sclEq : D → D → Option Bool
  | .int i, .int j => some (decide (i = j))
  | .str i, .str j => some (decide (i = j))
  | .bl i, .bl j => some (decide (i = j))
  | .non, .non => some true
  | .non, .int _ => some false
  | .int _, .non => some false
  | .non, .bl _ => some false
  | .bl _, .non => some false
  | .non, .str _ => some false
  | .str _, .non => some false
  | .int _, .str _ => some false
  | .str _, .int _ => some false
  | .bl _, .str _ => some false
  | .str _, .bl _ => some false
  | _, _ => none
def pyEq (x y : D) : Option Bool := match x.py, y.py with
  | some a, some b => if SeqAt.shaped a = true ∧ SeqAt.shaped b = true then some (PyData.eqv a b) else none
  | _, _ => none
/-- are they equal (none: no rule) -/
def dEq (x y : D) : Option Bool := match sclEq x y with
  | some b => some b
  | none => pyEq x y
def oEq : D → D → Store → ER := fun x y st => match dEq x y with
  | some b => .ok (.bl b) st
  | none => .no
def oNe : D → D → Store → ER := fun x y st => match dEq x y with
  | some b => .ok (.bl !b) st
  | none => .no
theorem pyEq_inv {x y : D} {b : Bool} (h : pyEq x y = some b) : ∃ a c, x.py = some a ∧ y.py = some c ∧ SeqAt.shaped a = true ∧ SeqAt.shaped c = true ∧ b = PyData.eqv a c := by
  unfold pyEq at h
  split at h
  · rename_i a c ha hc
    split at h
    · rename_i q; cases h; exact ⟨a, c, ha, hc, q.1, q.2, rfl⟩
    · cases h
  · cases h
theorem sclEq_inv {w : Wd} {x y : V} {dx dy : D} {b : Bool} (vx : Vw K w x dx) (vy : Vw K w y dy) (h : sclEq dx dy = some b) : scal x y = true ∧ decide (x = y) = b := by
  cases dx <;> cases dy <;> cases h
  all_goals (obtain rfl := vx; obtain rfl := vy; refine ⟨rfl, ?_⟩; simp)
theorem od_eq : OpD K (rOr rEq (rEqD K)) oEq := fun w x y dx dy Q E k vx vy p => by
  unfold oEq dEq at p
  cases h : sclEq dx dy with
  | some b =>
    rw [h] at p
    obtain ⟨e1, e2⟩ := sclEq_inv vx vy h
    exact .inl ⟨e1, by rw [e2]; exact p.now k .bl⟩
  | none =>
    rw [h] at p
    dsimp only at p
    cases h2 : pyEq dx dy with
    | none => rw [h2] at p; exact p.elim
    | some b =>
      rw [h2] at p
      obtain ⟨a, c, ha, hc, sa, sc, rfl⟩ := pyEq_inv h2
      exact .inr ⟨a, c, vw_dp k vx ha, vw_dp k vy hc, sa, sc, p.now k .bl⟩
theorem od_ne : OpD K (rOr rNe (rNeD K)) oNe := fun w x y dx dy Q E k vx vy p => by
  unfold oNe dEq at p
  cases h : sclEq dx dy with
  | some b =>
    rw [h] at p
    obtain ⟨e1, e2⟩ := sclEq_inv vx vy h
    exact .inl ⟨e1, by rw [e2]; exact p.now k .bl⟩
  | none =>
    rw [h] at p
    dsimp only at p
    cases h2 : pyEq dx dy with
    | none => rw [h2] at p; exact p.elim
    | some b =>
      rw [h2] at p
      obtain ⟨a, c, ha, hc, sa, sc, rfl⟩ := pyEq_inv h2
      exact .inr ⟨a, c, vw_dp k vx ha, vw_dp k vy hc, sa, sc, p.now k .bl⟩
end
end DL
namespace DL
open PySem L2
section
variable {P : Program} {wd : World} {K : PySem.W.Frag} {mg : Str → Option Value} {base : Heap} {k : Nat} {N : List Str} {sc : SC} {W : WX}

/-! ### arguments that are read (of built-ins) -/
def DenL (K : PySem.W.Frag) (w : Wd) (Γ : DEnv) (σ : L2.St) (vs : List V) (ds : List D) : Prop := vs.length = ds.length ∧ ∀ (i : Nat) (v : V) (d : D), vs[i]? = some v → ds[i]? = some d → Den K w Γ σ v d
def VwL (K : PySem.W.Frag) (w : Wd) (vs : List V) (ds : List D) : Prop := vs.length = ds.length ∧ ∀ (i : Nat) (v : V) (d : D), vs[i]? = some v → ds[i]? = some d → Vw K w v d
theorem DenL.nil {w : Wd} {Γ : DEnv} {σ : L2.St} : DenL K w Γ σ [] [] := ⟨rfl, fun i v d h => by simp at h⟩
theorem DenL.cons {w : Wd} {Γ : DEnv} {σ : L2.St} {v : V} {d : D} {vs : List V} {ds : List D} (h : Den K w Γ σ v d) (t : DenL K w Γ σ vs ds) : DenL K w Γ σ (v :: vs) (d :: ds) := ⟨by simp [t.1], fun i a b p q => by
  cases i with
  | zero => simp at p q; subst p; subst q; exact h
  | succ i => simp at p q; exact t.2 i a b p q⟩
theorem DenL.evo {w w' : Wd} {Γ : DEnv} {σ : L2.St} {vs : List V} {ds : List D} (h : DenL K w Γ σ vs ds) (e : Evo w w') : DenL K w' Γ σ vs ds := ⟨h.1, fun i v d a b => (h.2 i v d a b).evo e⟩
theorem DenL.vw {H0 : Hp} {w : Wd} {Γ : DEnv} {σ : L2.St} {vs : List V} {ds : List D} (k : Ok K w) (f : Fr K H0 w Γ σ) (h : DenL K w Γ σ vs ds) : VwL K w vs (ds.map (deref w.st)) := ⟨by simp [h.1], fun i v d a b => by
  rw [List.getElem?_map] at b
  cases e : ds[i]? with
  | none => rw [e] at b; cases b
  | some d' => rw [e] at b; cases b; exact (h.2 i v d' a e).vw k f⟩
theorem VwL.inv {w : Wd} {vs : List V} {d : D} {ds : List D} (h : VwL K w vs (d :: ds)) : ∃ v r, vs = v :: r ∧ Vw K w v d ∧ VwL K w r ds := by
  cases vs with
  | nil => simp [VwL] at h
  | cons v r => exact ⟨v, r, rfl, h.2 0 v d rfl rfl, by have := h.1; simpa using this, fun i a b p q => h.2 (i + 1) a b (by simpa using p) (by simpa using q)⟩
theorem VwL.inv0 {w : Wd} {vs : List V} (h : VwL K w vs []) : vs = [] := List.length_eq_zero_iff.mp h.1
theorem VwL.one {w : Wd} {vs : List V} {d : D} (h : VwL K w vs [d]) : ∃ v, vs = [v] ∧ Vw K w v d := by obtain ⟨v, r, rfl, a, b⟩ := h.inv; rw [b.inv0]; exact ⟨v, rfl, a⟩
theorem VwL.two {w : Wd} {vs : List V} {d e : D} (h : VwL K w vs [d, e]) : ∃ v u, vs = [v, u] ∧ Vw K w v d ∧ Vw K w u e := by obtain ⟨v, r, rfl, a, b⟩ := h.inv; obtain ⟨u, rfl, c⟩ := b.one; exact ⟨v, u, rfl, a, c⟩
def PostAB (K : PySem.W.Frag) (w : Wd) (Γ : DEnv) (σ : L2.St) (r : ER) (Q : List V → Hp → Prop) (W : XK) : Prop := match r with
  | .ok (.tup ds) st' => ∀ vs w', Evo w w' → Ok K w' → w'.st = st' → DenL K w' Γ σ vs ds → Q vs w'.H
  | .ok _ _ => False
  | .err x st' => ∀ c dd w', Evo w w' → Ok K w' → w'.st = st' → RepX K w' c dd x → W c dd w'.H
  | .no => False
theorem PostAB.shift {w w' : Wd} {Γ : DEnv} {σ : L2.St} (e : Evo w w') (k : Ok K w') {r : ER} {Q : List V → Hp → Prop} {E : XK} (p : PostAB K w Γ σ r Q E) : PostAB K w' Γ σ r Q E := by
  cases r with
  | ok d st =>
    cases d with
    | tup ds => exact fun v w2 e2 k2 s r => p v w2 (e.trans k e2) k2 s r
    | _ => exact p
  | err x st => exact fun c dd w2 e2 k2 s r => p c dd w2 (e.trans k e2) k2 s r
  | no => exact p
def RTAB (K : PySem.W.Frag) (W : WX) (t : TA) (m : EM) : Prop := ∀ (H0 : Hp) (w : Wd) (Γ : DEnv) (σ : L2.St), Ok K w → Fr K H0 w Γ σ → ∀ Q : List V → Hp → Prop, PostAB K w Γ σ (m Γ w.st) Q (at_ W σ) → t σ w.H Q
theorem RTAB.use {w : Wd} {H0 : Hp} {Γ : DEnv} {σ : L2.St} {t : TA} {m : EM} (h : RTAB K W t m) (k : Ok K w) (f : Fr K H0 w Γ σ) {Q : List V → Hp → Prop} {P : Wd → ER → Prop} {g : D → Store → ER}
    (sh : ∀ w' r, Evo w w' → Ok K w' → P w r → P w' r) (pe : ∀ x st, P w (.err x st) → PostAB K w Γ σ (.err x st) Q (at_ W σ)) (pn : ¬ P w .no) (gn : ∀ d st, (∀ b, d ≠ .tup b) → g d st = .no)
    (p : P w ((m Γ w.st).bind g)) (q : ∀ ds vs w', Evo w w' → Ok K w' → Fr K H0 w' Γ σ → DenL K w' Γ σ vs ds → P w' (g (.tup ds) w'.st) → Q vs w'.H) : t σ w.H Q := by
  refine h H0 w Γ σ k f Q ?_
  cases e : m Γ w.st with
  | ok d st =>
    rw [e] at p
    cases d with
    | tup ds => exact fun vs w' ev k' s r => q ds vs w' ev k' (f.evo ev) r (by subst s; exact sh w' _ ev k' p)
    | _ => rw [ok_bind, gn _ _ (fun b z => by cases z)] at p; exact (pn p).elim
  | err x st => rw [e] at p; exact pe x st p
  | no => rw [e] at p; exact (pn p).elim
def PAb (P : Program) (wd : World) (K : PySem.W.Frag) (mg : Str → Option Value) (base : Heap) (k : Nat) (N : List Str) (sc : SC) (W : WX) (es : List Expr) (m : EM) : Prop := ∃ t : TA, (∀ X, G P wd K mg base k N sc W X → PA X es t) ∧ RTAB K W t m
theorem pb_nil : PAb P wd K mg base k N sc W [] eNil := ⟨_, fun X g => pa_nil, fun H0 w Γ σ ok f Q p => p [] w (Evo.refl w) ok rfl .nil⟩
theorem pb_cons {e : Expr} {es : List Expr} {ma mr : EM} (ha : PB P wd K mg base k N sc W e ma) (hr : PAb P wd K mg base k N sc W es mr) (hs : ∀ env, starEach (e :: es) env = (false, eval e env) :: starEach es env := by intro _; rfl) :
    PAb P wd K mg base k N sc W (e :: es) (eCons ma mr) := by
  obtain ⟨ta, pa, ra⟩ := ha
  obtain ⟨tr, pr, rr⟩ := hr
  refine ⟨_, fun X g => pa_cons (pa X g) (pr X g) (hs X.env), ?_⟩
  intro H0 w Γ σ ok f Q q
  refine RB.use (P := fun w r => PostAB K w Γ σ r Q (at_ W σ)) ra ok f (fun _ _ e k p => p.shift e k) (fun _ _ p => p) (fun p => p) q fun d v w1 e1 k1 f1 r p1 => ?_
  refine RTAB.use (P := fun w r => PostAB K w Γ σ r Q (at_ W σ)) rr k1 f1 (fun _ _ e k p => p.shift e k) (fun _ _ p => p) (fun p => p) (fun d st hb => by cases d <;> first | rfl | exact absurd rfl (hb _)) p1 fun ds vs w2 e2 k2 f2 r2 p2 => ?_
  exact p2 (v :: vs) w2 (Evo.refl w2) k2 rfl (.cons (r.evo e2) r2)
/-- a built-in by what it does of data -/
def CallD (K : PySem.W.Frag) (r : List V → Hp → VK → Prop) (f : List D → Store → ER) : Prop := ∀ (w : Wd) (vs : List V) (ds : List D) (Q : VK) (E : XK), Ok K w → VwL K w vs ds → PostE K w (f ds w.st) Q E → r vs w.H Q
def eB (f : List D → Store → ER) (ms : EM) : EM := fun Γ st => (ms Γ st).bind fun d s => match d with | .tup ds => f (ds.map (deref s)) s | _ => .no
theorem rt_B {r : List V → Hp → VK → Prop} {f : List D → Store → ER} {t : TA} {ms : EM} (h : CallD K r f) (ra : RTAB K W t ms) : RT K W (tCB r t) (eB f ms) := by
  intro H0 w Γ σ ok f0 Q q
  refine RTAB.use (P := fun w r => PostE K w r Q (at_ W σ)) ra ok f0 (fun _ _ e k p => p.shift e k) (fun _ _ p => p) (fun p => p) (fun d st hb => by cases d <;> first | rfl | exact absurd rfl (hb _)) q fun ds vs w1 e1 k1 f1 r1 p1 => ?_
  exact h w1 vs _ Q _ k1 (r1.vw k1 f1) p1
theorem pr_B {r : List V → Hp → VK → Prop} {f : List D → Store → ER} {id : String} {x : Str} {e : Expr} {es : List Expr} {ms : EM} {p pos : Pos} (hc : ∀ X, G P wd K mg base k N sc W X → CallR X (.builtin id) r) (h : CallD K r f) (hm : mg x = none) (hv : bootBuiltins x = some (.builtin id))
    (ha : PAb P wd K mg base k N sc W (e :: es) ms) (hg : sc.s.names.lookup x = some .globalImplicit := by rfl) (hn : x ≠ "__name__" := by decide) (hdb : (x == ("__debug__" : Str)) = false := by decide)
    (he : ∀ env, starEach (e :: es) env = (false, eval e env) :: starEach es env := by intro _; rfl) (hpl : ∀ env, (backTo pos (starEach es env)).any (·.1) = false := by intro _; rfl) :
    PR P wd K mg base k N sc W (.Call (.Name x p) (e :: es) [] pos) (eB f ms) := by
  obtain ⟨t, pt, ra⟩ := ha
  refine ⟨_, fun X g => ?_, rt_B h ra⟩
  exact pe_callB (hc X g) (by unfold Gl PySem.Env.kindOf; rw [g.scp]; exact hg) (by rw [g.mg]; exact hm) hv (pt X g) hn hdb (he X.env) (hpl X.env)
theorem pr_Ty {r : List V → Hp → VK → Prop} {f : List D → Store → ER} {T : String} {x : Str} {e : Expr} {es : List Expr} {ms : EM} {p pos : Pos} (hc : ∀ X, G P wd K mg base k N sc W X → CallR X (.type T) r) (h : CallD K r f) (hm : mg x = none) (hv : bootBuiltins x = some (.type T))
    (ha : PAb P wd K mg base k N sc W (e :: es) ms) (hg : sc.s.names.lookup x = some .globalImplicit := by rfl) (hn : x ≠ "__name__" := by decide) (hdb : (x == ("__debug__" : Str)) = false := by decide)
    (he : ∀ env, starEach (e :: es) env = (false, eval e env) :: starEach es env := by intro _; rfl) (hpl : ∀ env, (backTo pos (starEach es env)).any (·.1) = false := by intro _; rfl) :
    PR P wd K mg base k N sc W (.Call (.Name x p) (e :: es) [] pos) (eB f ms) := by
  obtain ⟨t, pt, ra⟩ := ha
  refine ⟨_, fun X g => ?_, rt_B h ra⟩
  exact pe_callTy (hc X g) (by unfold Gl PySem.Env.kindOf; rw [g.scp]; exact hg) (by rw [g.mg]; exact hm) hv (pt X g) hn hdb (he X.env) (hpl X.env)
theorem CallD.or {r r' : List V → Hp → VK → Prop} {f g h : List D → Store → ER} (a : CallD K r f) (b : CallD K r' g) (s : ∀ x st, h x st = f x st ∨ h x st = g x st) : CallD K (fun xs H Q => r xs H Q ∨ r' xs H Q) h := fun w vs ds Q E k v p => by
  rcases s ds w.st with e | e
  · exact .inl (a w vs ds Q E k v (by rw [← e]; exact p))
  · exact .inr (b w vs ds Q E k v (by rw [← e]; exact p))

/-! ### len, list, min -/
def bLen : List D → Store → ER
  | [.lst xs], st => .ok (.int xs.length) st
  | [.tup xs], st => .ok (.int xs.length) st
  | [.str x], st => if x.length ≤ 16777216 then .ok (.int x.length) st else .no
  | [.dct xs], st => .ok (.int xs.length) st
  | _, _ => .no
theorem call_lenR {X : Cx} : CallR X (.builtin "len") (fun xs H Q => ∃ a kvs, xs = [V.ref a] ∧ Rd H a (.dK kvs) ∧ Q (.int kvs.length) H) := by
  intro pins s σ H xs us Q I r h
  obtain ⟨a, kvs, rfl, ha, q⟩ := h
  obtain ⟨u, rfl, ru⟩ := vals1 r
  cases ru
  exact d_len I ha fun t s' I' => ⟨.int kvs.length, H, I', ⟨t, rfl⟩, q⟩
theorem RepP.len {κ : Type} {w : Wd} {vs : List (κ × V)} {xs : List (κ × D)} (r : RepP K w vs xs) : vs.length = xs.length := by have := congrArg List.length r.1; simpa using this
theorem cd_len : CallD K (fun xs H Q => (∃ x n, xs = [x] ∧ LenV K x H n ∧ Q (.int n) H) ∨ ∃ a kvs, xs = [V.ref a] ∧ Rd H a (.dK kvs) ∧ Q (.int kvs.length) H) bLen := fun w vs ds Q E k v p => by
  unfold bLen at p
  split at p
  · obtain ⟨x, rfl, a, us, rfl, h, r⟩ := v.one; exact .inl ⟨_, _, rfl, .inl ⟨us, SqL.of h, r.1.symm⟩, p.now k .int⟩
  · obtain ⟨x, rfl, a, us, rfl, h, r⟩ := v.one; exact .inl ⟨_, _, rfl, .inr ⟨us, h, r.1.symm⟩, p.now k .int⟩
  · obtain ⟨x, rfl, h⟩ := v.one
    obtain rfl := h
    obtain ⟨h, p⟩ := PostE.ite p
    exact .inl ⟨_, _, rfl, ⟨by rw [sizeLine_eq]; exact h, rfl⟩, p.now k .int⟩
  · obtain ⟨x, rfl, a, us, rfl, h, r⟩ := v.one; exact .inr ⟨_, _, rfl, h, by rw [r.len]; exact p.now k .int⟩
  · exact p.elim
theorem pr_len {e : Expr} {ms : EM} {p pos : Pos} (hm : mg "len" = none) (ha : PAb P wd K mg base k N sc W [e] ms) (hg : sc.s.names.lookup ("len" : Str) = some .globalImplicit := by rfl) (he : ∀ env, starEach [e] env = (false, eval e env) :: starEach [] env := by intro _; rfl) :
    PR P wd K mg base k N sc W (.Call (.Name "len" p) [e] [] pos) (eB bLen ms) :=
  pr_B (id := "len") (fun X g => CallR.or (by rw [← g.kk]; exact call_len) call_lenR) cd_len hm PySem.boot_len ha hg (by decide) (by decide) he (fun _ => rfl)
def bList : List D → Store → ER
  | [.lst xs], st => .ok (.lst xs) st
  | [.tup xs], st => .ok (.lst xs) st
  | [.scr ns], st => .ok (.lst (ns.map .int)) st
  | _, _ => .no
theorem repL_ints {w : Wd} (ns : List Int) : RepL K w (ns.map V.int) (ns.map D.int) := RepL.of_map (fun _ => .int) ns
theorem cd_list : CallD K (fun xs H Q => ∃ p ys, xs = [.ref p] ∧ (SqL K H p ys ∨ SqT K H p ys) ∧ ∀ l, H l = none → Q (.ref l) (upd H l (.lst ys))) bList := fun w vs ds Q E k v p => by
  unfold bList at p
  split at p
  · obtain ⟨x, rfl, a, us, rfl, h, r⟩ := v.one; exact ⟨_, _, rfl, .inl (SqL.of h), fun l hl => p.lst rfl k r l hl⟩
  · obtain ⟨x, rfl, a, us, rfl, h, r⟩ := v.one; exact ⟨_, _, rfl, .inr h, fun l hl => p.lst rfl k r l hl⟩
  · obtain ⟨x, rfl, a, rfl, h⟩ := v.one; exact ⟨_, _, rfl, .inl h, fun l hl => p.lst rfl k (repL_ints _) l hl⟩
  · exact p.elim
theorem pr_list {e : Expr} {ms : EM} {p pos : Pos} (hm : mg "list" = none) (ha : PAb P wd K mg base k N sc W [e] ms) (hg : sc.s.names.lookup ("list" : Str) = some .globalImplicit := by rfl) (he : ∀ env, starEach [e] env = (false, eval e env) :: starEach [] env := by intro _; rfl) :
    PR P wd K mg base k N sc W (.Call (.Name "list" p) [e] [] pos) (eB bList ms) :=
  pr_Ty (T := "list") (fun X g => by rw [← g.kk]; exact call_list_of) cd_list hm (by decide +kernel) ha hg (by decide) (by decide) he (fun _ => rfl)
def bMin2 : List D → Store → ER
  | [.int i, .int j], st => .ok (.int (if j < i then j else i)) st
  | _, _ => .no
theorem cd_min2 : CallD K (fun xs H Q => ∃ i j, xs = [.int i, .int j] ∧ Q (.int (if j < i then j else i)) H) bMin2 := fun w vs ds Q E k v p => by
  unfold bMin2 at p
  split at p
  · obtain ⟨x, y, rfl, a, b⟩ := v.two; obtain rfl := a; obtain rfl := b; exact ⟨_, _, rfl, p.now k .int⟩
  · exact p.elim
theorem pr_min2 {e1 e2 : Expr} {ms : EM} {p pos : Pos} (hm : mg "min" = none) (ha : PAb P wd K mg base k N sc W [e1, e2] ms) (hg : sc.s.names.lookup ("min" : Str) = some .globalImplicit := by rfl) (he : ∀ env, starEach [e1, e2] env = (false, eval e1 env) :: starEach [e2] env := by intro _; rfl)
    (hpl : ∀ env, (backTo pos (starEach [e2] env)).any (·.1) = false := by intro _; rfl) :
    PR P wd K mg base k N sc W (.Call (.Name "min" p) [e1, e2] [] pos) (eB bMin2 ms) :=
  pr_B (id := "min") (fun X g => call_min2 g.calm) cd_min2 hm (by decide +kernel) ha hg (by decide) (by decide) he hpl

/-! ### items, slices -/
def oIx : D → D → Store → ER
  | .lst xs, .int i, st => match atI xs i with | some d => .ok d st | none => .no
  | .tup xs, .int i, st => match atI xs i with | some d => .ok d st | none => .no
  | .str x, .int i, st => if x.length ≤ 16777216 then match atI x.cps.toList i with | some c => .ok (.str ⟨#[c]⟩) st | none => .no else .no
  | _, _, _ => .no
theorem RepL.atI {w : Wd} {vs : List V} {xs : List D} (r : RepL K w vs xs) {i : Int} {d : D} (h : L2.atI xs i = some d) : ∃ v, L2.atI vs i = some v ∧ Rep K w v d := by
  unfold L2.atI at h ⊢
  rw [r.1]
  cases e : ixN xs.length i with
  | none => rw [e] at h; cases h
  | some j => rw [e] at h; obtain ⟨v, hv, rv⟩ := r.get h; exact ⟨v, hv, rv⟩
theorem od_ix : OpD K (rIx K) oIx := fun w x y dx dy Q E k vx vy p => by
  cases dx <;> cases dy <;> try exact p.elim
  case lst.int xs i =>
    obtain ⟨a, vs, rfl, h, r⟩ := vx
    obtain rfl := vy
    have p' : PostE K w (match atI xs i with | some d => .ok d w.st | none => .no) Q E := p
    cases e : atI xs i with
    | none => rw [e] at p'; exact p'.elim
    | some d => rw [e] at p'; obtain ⟨v, hv, rv⟩ := r.atI e; exact .inl ⟨a, vs, i, v, rfl, rfl, SqL.of h, hv, p'.now k rv⟩
  case tup.int xs i =>
    obtain ⟨a, vs, rfl, h, r⟩ := vx
    obtain rfl := vy
    have p' : PostE K w (match atI xs i with | some d => .ok d w.st | none => .no) Q E := p
    cases e : atI xs i with
    | none => rw [e] at p'; exact p'.elim
    | some d => rw [e] at p'; obtain ⟨v, hv, rv⟩ := r.atI e; exact .inr (.inl ⟨a, vs, i, v, rfl, rfl, h, hv, p'.now k rv⟩)
  case str.int x i =>
    obtain rfl := vx
    obtain rfl := vy
    obtain ⟨hl, p⟩ := PostE.ite p
    cases e : atI x.cps.toList i with
    | none => rw [e] at p; exact p.elim
    | some d => rw [e] at p; exact .inr (.inr ⟨x, i, d, rfl, rfl, by rw [sizeLine_eq]; exact hl, e, p.now k .str⟩)
theorem pr_ix {a b : Expr} {ma mb : EM} {pos : Pos} (ha : PB P wd K mg base k N sc W a ma) (hb : PB P wd K mg base k N sc W b mb) (hs : PlainIx b := by exact fun _ _ => rfl) : PR P wd K mg base k N sc W (.Subscript a b pos) (eOp oIx ma mb) := by
  obtain ⟨ta, pa, ra⟩ := ha
  obtain ⟨tb, pb, rb⟩ := hb
  exact ⟨_, fun X g => pe_ix (by have := ix_seq (X := X); rw [g.kk] at this; exact this) (pa X g) (pb X g) hs, rt_op od_ix ra rb⟩
/-- the parts of a slice: None, an int -/
def PostO (K : PySem.W.Frag) (w : Wd) (r : ER) (Q : Option Int → Hp → Prop) (W : XK) : Prop := match r with
  | .ok .non st' => ∀ w', Evo w w' → Ok K w' → w'.st = st' → Q none w'.H
  | .ok (.int i) st' => ∀ w', Evo w w' → Ok K w' → w'.st = st' → Q (some i) w'.H
  | .ok _ _ => False
  | .err x st' => ∀ c dd w', Evo w w' → Ok K w' → w'.st = st' → RepX K w' c dd x → W c dd w'.H
  | .no => False
def RTO (K : PySem.W.Frag) (W : WX) (t : TO) (m : EM) : Prop := ∀ (H0 : Hp) (w : Wd) (Γ : DEnv) (σ : L2.St), Ok K w → Fr K H0 w Γ σ → ∀ Q : Option Int → Hp → Prop, PostO K w (m Γ w.st) Q (at_ W σ) → t σ w.H Q
def POt (P : Program) (wd : World) (K : PySem.W.Frag) (mg : Str → Option Value) (base : Heap) (k : Nat) (N : List Str) (sc : SC) (W : WX) (e : Option Expr) (m : EM) : Prop := ∃ t : TO, (∀ X, G P wd K mg base k N sc W X → PO X e t) ∧ RTO K W t m
def eInt (m : EM) : EM := fun Γ st => (m Γ st).bind fun d s => match d with | .int i => .ok (.int i) s | _ => .no
theorem po_none' : POt P wd K mg base k N sc W none (eC .non) := ⟨_, fun X g => po_none, fun H0 w Γ σ ok f Q p => p w (Evo.refl w) ok rfl⟩
theorem po_some' {e : Expr} {m : EM} (h : PR P wd K mg base k N sc W e m) : POt P wd K mg base k N sc W (some e) (eInt m) := by
  obtain ⟨t, p, r⟩ := h
  refine ⟨_, fun X g => po_some (p X g), ?_⟩
  intro H0 w Γ σ ok f Q q
  refine r H0 w Γ σ ok f _ ?_
  have q' : PostO K w ((m Γ w.st).bind _) Q (at_ W σ) := q
  cases e : m Γ w.st with
  | ok d st =>
    rw [e] at q'
    cases d with
    | int i => exact fun v w' ev k' s rv => by cases rv; exact ⟨i, rfl, q' w' ev k' s⟩
    | _ => exact q'.elim
  | err x st => rw [e] at q'; exact q'
  | no => rw [e] at q'; exact q'
def cutL (xs : List D) (lo hi : Option Int) : List D := (xs.drop (HT.sIx xs.length 0 lo)).take (HT.sIx xs.length xs.length hi - HT.sIx xs.length 0 lo)
def oSl (lo hi : Option Int) : D → Store → ER
  | .lst xs, st => .ok (.lst (cutL xs lo hi)) st
  | .str x, st => if x.length ≤ 16777216 then .ok (.str (cutS x lo hi)) st else .no
  | .scr ns, st => .ok (.lst (cutL (ns.map .int) lo hi)) st
  | _, _ => .no
def part : D → Option (Option Int)
  | .non => some none
  | .int i => some (some i)
  | _ => none
def eSl (ma ml mh : EM) : EM := fun Γ st => (ma Γ st).bind fun x s1 => (ml Γ s1).bind fun l s2 => match part l with
  | none => .no
  | some lo => (mh Γ s2).bind fun h s3 => match part h with
    | none => .no
    | some hi => oSl lo hi (deref s3 x) s3
theorem cutV_rep {w : Wd} {vs : List V} {xs : List D} (r : RepL K w vs xs) (lo hi : Option Int) : RepL K w (cutV vs lo hi) (cutL xs lo hi) := by
  unfold cutV cutL
  rw [r.1]
  exact (r.drop _).take _
theorem RTO.use {w : Wd} {H0 : Hp} {Γ : DEnv} {σ : L2.St} {t : TO} {m : EM} (h : RTO K W t m) (k : Ok K w) (f : Fr K H0 w Γ σ) {Q : Option Int → Hp → Prop} {P : Wd → ER → Prop} {g : D → Store → ER}
    (sh : ∀ w' r, Evo w w' → Ok K w' → P w r → P w' r) (pe : ∀ x st, P w (.err x st) → PostO K w (.err x st) Q (at_ W σ)) (pn : ¬ P w .no) (gn : ∀ w' d st, part d = none → ¬ P w' (g d st))
    (p : P w ((m Γ w.st).bind g)) (q : ∀ d o w', part d = some o → Evo w w' → Ok K w' → Fr K H0 w' Γ σ → P w' (g d w'.st) → Q o w'.H) : t σ w.H Q := by
  refine h H0 w Γ σ k f Q ?_
  cases e : m Γ w.st with
  | ok d st =>
    rw [e] at p
    cases d with
    | non => exact fun w' ev k' s => q .non none w' rfl ev k' (f.evo ev) (by subst s; exact sh w' _ ev k' p)
    | int i => exact fun w' ev k' s => q (.int i) (some i) w' rfl ev k' (f.evo ev) (by subst s; exact sh w' _ ev k' p)
    | _ => exact (gn w _ _ rfl p).elim
  | err x st => rw [e] at p; exact pe x st p
  | no => rw [e] at p; exact (pn p).elim
theorem pr_sl {a : Expr} {lo hi : Option Expr} {ma ml mh : EM} {p2 pos : Pos} (ha : PB P wd K mg base k N sc W a ma) (hl : POt P wd K mg base k N sc W lo ml) (hh : POt P wd K mg base k N sc W hi mh) : PR P wd K mg base k N sc W (.Subscript a (.Slice lo hi none p2) pos) (eSl ma ml mh) := by
  obtain ⟨ta, pa, ra⟩ := ha
  obtain ⟨tl, pl, rl⟩ := hl
  obtain ⟨th, ph, rh⟩ := hh
  refine ⟨tSl (fun x l u H Q => rSlL K x l u H Q ∨ rSlS x l u H Q) ta tl th, fun X g => pe_slice (SlR.or (by have := sl_list (X := X); rw [g.kk] at this; exact this) sl_str) (pa X g) (pl X g) (ph X g), ?_⟩
  intro H0 w Γ σ ok f Q q
  refine RB.use (P := fun w r => PostE K w r Q (at_ W σ)) ra ok f (fun _ _ e k p => p.shift e k) (fun _ _ p => p) (fun p => p) q fun dx x w1 e1 k1 f1 r1 p1 => ?_
  refine RTO.use (P := fun w r => PostE K w r Q (at_ W σ)) rl k1 f1 (fun _ _ e k p => p.shift e k) (fun _ _ p => p) (fun p => p) (fun w' d st h p => by rw [h] at p; exact p) p1 fun l o w2 hp e2 k2 f2 p2 => ?_
  rw [hp] at p2
  refine RTO.use (P := fun w r => PostE K w r Q (at_ W σ)) rh k2 f2 (fun _ _ e k p => p.shift e k) (fun _ _ p => p) (fun p => p) (fun w' d st h p => by rw [h] at p; exact p) p2 fun h u w3 hq e3 k3 f3 p3 => ?_
  rw [hq] at p3
  have v := (r1.evo (e2.trans k2 e3)).vw k3 f3
  revert v p3
  show PostE K w3 (oSl o u (deref w3.st dx) w3.st) Q (at_ W σ) → Vw K w3 x (deref w3.st dx) → _
  cases deref w3.st dx with
  | lst xs => exact fun p v => by obtain ⟨c, vs, rfl, h, r⟩ := v; exact .inl ⟨c, vs, rfl, SqL.of h, fun l hl => p.lst rfl k3 (cutV_rep r o u) l hl⟩
  | str z => exact fun p v => by obtain rfl := v; obtain ⟨hz, p⟩ := PostE.ite p; exact .inr ⟨z, rfl, by rw [sizeLine_eq]; exact hz, p.now k3 .str⟩
  | scr ns => exact fun p v => by obtain ⟨c, rfl, h⟩ := v; exact .inl ⟨c, _, rfl, h, fun l hl => p.lst rfl k3 (cutV_rep (repL_ints ns) o u) l hl⟩
  | _ => exact fun p _ => p.elim
end
end DL
namespace DL
open PySem L2
section
variable {P : Program} {wd : World} {K : PySem.W.Frag} {mg : Str → Option Value} {base : Heap} {k : Nat} {N : List Str} {sc : SC} {W : WX}

/-! ### targets -/
abbrev GM := D → DEnv → Option DEnv
def RTG (K : PySem.W.Frag) (g : TG) (m : GM) (is : List Nat) : Prop := ∀ (H0 : Hp) (w : Wd) (Γ Γ' : DEnv) (σ : L2.St) (v : V) (d : D), Ok K w → Fr K H0 w Γ σ → Rep K w v d → m d Γ = some Γ' →
  ∀ Q : L2.St → Hp → Prop, (∀ σ', Fr K H0 w Γ' σ' → (∀ vs : List Nat, (∀ i ∈ is, i ∈ vs) → wipe σ' vs = wipe σ vs) → Q σ' w.H) → g v σ w.H Q
def RTGs (K : PySem.W.Frag) (g : TGs) (m : List D → DEnv → Option DEnv) (is : List Nat) : Prop := ∀ (H0 : Hp) (w : Wd) (Γ Γ' : DEnv) (σ : L2.St) (vs : List V) (ds : List D), Ok K w → Fr K H0 w Γ σ → RepL K w vs ds → m ds Γ = some Γ' →
  ∀ Q : L2.St → Hp → Prop, (∀ σ', Fr K H0 w Γ' σ' → (∀ vs : List Nat, (∀ i ∈ is, i ∈ vs) → wipe σ' vs = wipe σ vs) → Q σ' w.H) → g vs σ w.H Q
def PGt (P : Program) (wd : World) (K : PySem.W.Frag) (mg : Str → Option Value) (base : Heap) (k : Nat) (N : List Str) (sc : SC) (W : WX) (e : Expr) (m : GM) (is : List Nat) : Prop := ∃ t : TG, (∀ X, G P wd K mg base k N sc W X → PG X e t) ∧ RTG K t m is
def PGts (P : Program) (wd : World) (K : PySem.W.Frag) (mg : Str → Option Value) (base : Heap) (k : Nat) (N : List Str) (sc : SC) (W : WX) (e : List Expr) (m : List D → DEnv → Option DEnv) (is : List Nat) : Prop := ∃ t : TGs, (∀ X, G P wd K mg base k N sc W X → PGs X e t) ∧ RTGs K t m is
theorem wipe_set {σ : L2.St} {v : Option V} : ∀ {vs : List Nat} {i : Nat}, i ∈ vs → wipe (σ.set i v) vs = wipe σ vs
  | [], _, h => by simp at h
  | u :: us, i, h => by
    unfold wipe
    by_cases q : i ∈ us
    · rw [wipe_set q]
    · have e : i = u := by simpa [q] using h
      subst e
      have c : ∀ ws : List Nat, i ∉ ws → wipe (σ.set i v) ws = (wipe σ ws).set i v := by
        intro ws
        induction ws with
        | nil => intro _; rfl
        | cons a as ih =>
          intro hn
          unfold wipe
          have hne : i ≠ a := fun z => hn (by rw [z]; exact List.mem_cons_self)
          rw [ih (fun z => hn (List.mem_cons_of_mem _ z)), List.set_comm _ _ hne]
      rw [c us q, List.set_set]
theorem wipe_set_of {σ : L2.St} : ∀ (vs us : List Nat), (∀ i ∈ vs, i ∈ us) → wipe (wipe σ vs) us = wipe σ us
  | [], _, _ => rfl
  | v :: vs, us, h => by
    show wipe ((wipe σ vs).set v none) us = _
    rw [wipe_set (h v List.mem_cons_self)]
    exact wipe_set_of vs us fun i hi => h i (List.mem_cons_of_mem _ hi)
theorem wipe_wipe {σ : L2.St} (vs : List Nat) : wipe (wipe σ vs) vs = wipe σ vs := wipe_set_of vs vs fun _ h => h
def gN (i : Nat) : GM := fun d Γ => some (Γ.set i (.sh d))
theorem pg_name' (i : Nat) {x : Str} {pos : Pos} (nd : N.Nodup) (hi : N[i]? = some x := by rfl) (hx : Loc sc.s x := by first | exact Or.inl rfl | exact Or.inr rfl) (hf : sc.fn x = true ∨ sc.s.names.lookup x = some .local := by first | exact Or.inl rfl | exact Or.inr rfl) : PGt P wd K mg base k N sc W (.Name x pos) (gN i) [i] := by
  refine ⟨gName i, fun X g => pg_name (by rw [g.nn]; exact nd) (by rw [g.nn]; exact hi) (by rw [g.scp]; exact hx) ?_, ?_⟩
  · rw [g.fnc, g.scp]; exact hf
  intro H0 w Γ Γ' σ v d ok f r e Q q
  cases e
  exact q _ (fr_set f r i) fun vs h => wipe_set (h i List.mem_cons_self)
def gNs : List D → DEnv → Option DEnv := fun ds Γ => match ds with | [] => some Γ | _ => none
def gCs (m : GM) (ms : List D → DEnv → Option DEnv) : List D → DEnv → Option DEnv := fun ds Γ => match ds with | d :: r => (m d Γ).bind (ms r) | [] => none
theorem pgs_nil' : PGts P wd K mg base k N sc W [] gNs [] := by
  refine ⟨_, fun X g => pgs_nil, ?_⟩
  intro H0 w Γ Γ' σ vs ds ok f r e Q q
  cases ds with
  | nil => cases e; exact ⟨r.inv0, q σ f fun _ _ => rfl⟩
  | cons d ds => cases e
theorem pgs_cons' {e : Expr} {es : List Expr} {m : GM} {ms : List D → DEnv → Option DEnv} {is js : List Nat} (h : PGt P wd K mg base k N sc W e m is) (h' : PGts P wd K mg base k N sc W es ms js)
    (hst : ∀ env, (assignEach (e :: es) env).map (·.2) = assign e env :: (assignEach es env).map (·.2) := by intro _; rfl) : PGts P wd K mg base k N sc W (e :: es) (gCs m ms) (is ++ js) := by
  obtain ⟨t, p, r⟩ := h
  obtain ⟨t', p', r'⟩ := h'
  refine ⟨_, fun X g => pgs_cons (p X g) (p' X g) (hst X.env), ?_⟩
  intro H0 w Γ Γ' σ vs ds ok f rl e Q q
  cases ds with
  | nil => cases e
  | cons d ds =>
    obtain ⟨v, us, rfl, r1, r2⟩ := rl.inv
    have e' : (m d Γ).bind (ms ds) = some Γ' := e
    cases h1 : m d Γ with
    | none => rw [h1] at e'; cases e'
    | some Γ1 =>
      rw [h1] at e'
      refine ⟨v, us, rfl, r H0 w Γ Γ1 σ v d ok f r1 h1 _ fun σ1 f1 w1 => ?_⟩
      exact r' H0 w Γ1 Γ' σ1 us ds ok f1 r2 e' Q fun σ2 f2 w2 => q σ2 f2 fun vs h => (w2 vs fun i hi => h i (List.mem_append_right _ hi)).trans (w1 vs fun i hi => h i (List.mem_append_left _ hi))
def gT (n : Nat) (ms : List D → DEnv → Option DEnv) : GM := fun d Γ => match d with | .tup ds => if ds.length = n then ms ds Γ else none | _ => none
theorem pg_tup' {es : List Expr} {x1 : Nat} {pos : Pos} {ms : List D → DEnv → Option DEnv} {is : List Nat} (n : Nat) (h : PGts P wd K mg base k N sc W es ms is) (hn : ∀ env, (assignEach es env).length = n := by intro _; rfl) (hst : ∀ env, (assignEach es env).findIdx? (·.1) = none := by intro _; rfl) :
    PGt P wd K mg base k N sc W (.Tuple es x1 pos) (gT n ms) is := by
  obtain ⟨t, p, r⟩ := h
  refine ⟨gTup K n t, fun X g => by have := pg_tup (k := x1) (pos := pos) g.calm (p X g) (hn X.env) (hst X.env); rw [g.kk] at this; exact this, ?_⟩
  intro H0 w Γ Γ' σ v d ok f rv e Q q
  unfold gT at e
  split at e
  · rename_i ds
    split at e
    · rename_i hl
      cases rv with
      | tup m l z => exact ⟨_, _, rfl, ok.sqT m, l.trans hl, r H0 w Γ Γ' σ _ ds ok f ⟨l, z⟩ e Q q⟩
    · cases e
  · cases e

/-! ### what is walked -/
def Wlk (K : PySem.W.Frag) (w : Wd) (J : It) (ds : List D) : Prop := ∀ (i : Nat) (w1 : Wd), Ext w w1 → Ok K w1 →
  (∀ d, ds[i]? = some d → J.go i w1.H ∧ ∀ x H2, J.yld i w1.H x H2 → ∃ w2 : Wd, w2.H = H2 ∧ w2.st = w1.st ∧ Evo w1 w2 ∧ Ok K w2 ∧ Rep K w2 x d) ∧ (ds[i]? = none → J.stop i w1.H)
def PostI (K : PySem.W.Frag) (w : Wd) (r : ER) (R : It → Hp → Prop) (W : XK) : Prop := match r with
  | .ok (.tup ds) st' => ∀ J w', Evo w w' → Ok K w' → w'.st = st' → Wlk K w' J ds → R J w'.H
  | .ok _ _ => False
  | .err x st' => ∀ c dd w', Evo w w' → Ok K w' → w'.st = st' → RepX K w' c dd x → W c dd w'.H
  | .no => False
def RTI (K : PySem.W.Frag) (W : WX) (t : TI) (m : EM) : Prop := ∀ (H0 : Hp) (w : Wd) (Γ : DEnv) (σ : L2.St), Ok K w → Fr K H0 w Γ σ → ∀ R : It → Hp → Prop, PostI K w (m Γ w.st) R (at_ W σ) → t σ w.H R
def PIt (P : Program) (wd : World) (K : PySem.W.Frag) (mg : Str → Option Value) (base : Heap) (k : Nat) (N : List Str) (sc : SC) (W : WX) (tg e : Expr) (m : EM) : Prop := ∃ t : TI, (∀ X, G P wd K mg base k N sc W X → PI X tg e t) ∧ RTI K W t m
theorem PostI.shift {w w' : Wd} (e : Evo w w') (k : Ok K w') {r : ER} {Q : It → Hp → Prop} {E : XK} (p : PostI K w r Q E) : PostI K w' r Q E := by
  cases r with
  | ok d st =>
    cases d with
    | tup ds => exact fun v w2 e2 k2 s r => p v w2 (e.trans k e2) k2 s r
    | _ => exact p
  | err x st => exact fun c dd w2 e2 k2 s r => p c dd w2 (e.trans k e2) k2 s r
  | no => exact p
theorem getElem?_lt {α : Type} {l : List α} {i : Nat} {x : α} (h : l[i]? = some x) : i < l.length := (List.getElem?_eq_some_iff.mp h).1
theorem itr_list {w : Wd} {a : Addr} {vs : List V} {ds : List D} (h : w.M a = some (.lst vs)) (r : RepL K w vs ds) : Wlk K w (L2.Itl K a) ds := fun i w1 e k => by
  have h1 : SqL K w1.H a vs := SqL.of (k.ex _ _ (e.mono _ _ h))
  refine ⟨fun d hd => ?_, fun hn => ⟨vs, h1, by rw [r.1]; exact List.getElem?_eq_none_iff.mp hn⟩⟩
  obtain ⟨v, hv, rv⟩ := r.get hd
  refine ⟨⟨vs, v, h1, hv⟩, fun x H2 y => ⟨w1, y.1.symm, rfl, Evo.refl w1, k, ?_⟩⟩
  have q := y.2 vs h1
  rw [hv] at q; cases q
  exact rv.ext e
theorem itr_tup {w : Wd} {a : Addr} {vs : List V} {ds : List D} (h : SqT K w.M a vs) (r : RepL K w vs ds) : Wlk K w (L2.Itt K a) ds := fun i w1 e k => by
  have h1 : SqT K w1.H a vs := k.sqT (e.sqT h)
  refine ⟨fun d hd => ?_, fun hn => ⟨vs, h1, by rw [r.1]; exact List.getElem?_eq_none_iff.mp hn⟩⟩
  obtain ⟨v, hv, rv⟩ := r.get hd
  refine ⟨⟨vs, v, h1, hv⟩, fun x H2 y => ⟨w1, y.1.symm, rfl, Evo.refl w1, k, ?_⟩⟩
  have q := y.2 vs h1
  rw [hv] at q; cases q
  exact rv.ext e
def rng (lo : Int) (c : Int) (n : Nat) : List D := (List.range n).map fun (i : Nat) => D.int (lo + (i : Int) * c)
theorem rng_len (lo c : Int) (n : Nat) : (rng lo c n).length = n := by simp [rng]
theorem rng_get {lo c : Int} {n i : Nat} (h : i < n) : (rng lo c n)[i]? = some (.int (lo + (i : Int) * c)) := by simp [rng, h]
theorem itr_rng {w : Wd} {lo : Int} {n : Nat} : Wlk K w (L2.Itr lo n) (rng lo 1 n) := fun i w1 e k => by
  refine ⟨fun d hd => ?_, fun hn => by have := List.getElem?_eq_none_iff.mp hn; rwa [rng_len] at this⟩
  have hl := getElem?_lt hd
  rw [rng_len] at hl
  rw [rng_get hl] at hd; cases hd
  exact ⟨hl, fun x H2 y => ⟨w1, y.1.symm, rfl, Evo.refl w1, k, by rw [y.2, Int.mul_one]; exact .int⟩⟩
theorem itr_rngC {w : Wd} {lo c : Int} {n : Nat} : Wlk K w (L2.Itc lo c n) (rng lo c n) := fun i w1 e k => by
  refine ⟨fun d hd => ?_, fun hn => by have := List.getElem?_eq_none_iff.mp hn; rwa [rng_len] at this⟩
  have hl := getElem?_lt hd
  rw [rng_len] at hl
  rw [rng_get hl] at hd; cases hd
  exact ⟨hl, fun x H2 y => ⟨w1, y.1.symm, rfl, Evo.refl w1, k, by rw [y.2]; exact .int⟩⟩

/-! ### for -/
def forL (mg : GM) (mb : SM) : List D → DEnv → Store → SR
  | [], Γ, st => .nx Γ st
  | d :: ds, Γ, st => match mg d Γ with
    | none => .no
    | some Γ1 => match mb Γ1 st with
      | .nx Γ2 st2 => forL mg mb ds Γ2 st2
      | .ct Γ2 st2 => forL mg mb ds Γ2 st2
      | .bk Γ2 st2 => .nx Γ2 st2
      | r => r
def sFor (mi : EM) (mg : GM) (mb : SM) : SM := fun Γ st => (mi Γ st).bs Γ fun d s => match d with | .tup ds => forL mg mb ds Γ s | _ => .no
theorem rts_for {wi : TI} {g : TG} {tb : TS} {mi : EM} {mg : GM} {mb : SM} {is : List Nat} (hi : RTI K W wi mi) (hg : RTG K g mg is) (hb : RTS K W tb mb) : RTS K W (tFor wi g tb) (sFor mi mg mb) := by
  intro w0 w Γ σ e0 ok f Dn p
  refine hi w0.H w Γ σ ok f _ ?_
  have p' : PostS K w0 w ((mi Γ w.st).bs Γ _) Dn W := p
  cases h : mi Γ w.st with
  | no => rw [h] at p'; exact p'
  | err x st => rw [h] at p'; exact fun c dd w' ev k' s r => p' c dd w' σ (e0.trans ok ev) ev.ext k' s (f.evo ev) r
  | ok d st =>
    rw [h] at p'
    cases d with
    | tup ds =>
      intro J w' ev k' s it
      subst s
      have p1 : PostS K w0 w' (forL mg mb ds Γ w'.st) Dn W := p'.shift ev.ext
      refine ⟨fun i m σ H => ∃ (w1 : Wd) (Γ1 : DEnv), H = w1.H ∧ Evo w0 w1 ∧ Ext w' w1 ∧ Ok K w1 ∧ Fr K w0.H w1 Γ1 σ ∧ m = ds.length - i ∧ i ≤ ds.length ∧ PostS K w0 w1 (forL mg mb (ds.drop i) Γ1 w1.st) Dn W,
        ⟨ds.length, w', Γ, rfl, e0.trans ok ev, Ext.refl w', k', f.evo ev, rfl, Nat.zero_le _, p1⟩, ?_⟩
      rintro i m σ1 H ⟨w1, Γ1, rfl, ea, xa, ka, fa, rfl, hle, q⟩
      obtain ⟨go, stop⟩ := it i w1 xa ka
      cases hd : ds[i]? with
      | none =>
        refine .inl ⟨stop hd, ?_⟩
        rw [List.drop_eq_nil_of_le (List.getElem?_eq_none_iff.mp hd)] at q
        exact q w1 σ1 ea (Ext.refl w1) ka rfl fa
      | some d =>
        obtain ⟨g1, g2⟩ := go d hd
        have hl := getElem?_lt hd
        refine .inr ⟨g1, fun σ H => ∃ (w1 : Wd) (Γ1 : DEnv), H = w1.H ∧ Evo w0 w1 ∧ Ext w' w1 ∧ Ok K w1 ∧ Fr K w0.H w1 Γ1 σ ∧ PostS K w0 w1 (forL mg mb (ds.drop (i + 1)) Γ1 w1.st) Dn W, ?_, fun x H2 y => ?_⟩
        · rintro σ' H' ⟨w3, Γ3, rfl, a1, a2, a3, a4, a5⟩
          exact ⟨ds.length - (i + 1), by omega, w3, Γ3, rfl, a1, a2, a3, a4, rfl, hl, a5⟩
        · obtain ⟨w2, rfl, s2, e2, k2, r2⟩ := g2 x H2 y
          rw [List.drop_eq_getElem_cons hl] at q
          have hd' : ds[i] = d := by rw [List.getElem?_eq_getElem hl] at hd; exact Option.some.inj hd
          rw [hd'] at q
          unfold forL at q
          cases h1 : mg d Γ1 with
          | none => rw [h1] at q; exact q.elim
          | some Γ2 =>
            rw [h1] at q
            dsimp only at q
            refine hg w0.H w2 Γ1 Γ2 σ1 x d k2 (fa.evo e2) r2 h1 _ fun σ2 f2 _ => ?_
            refine hb w0 w2 Γ2 σ2 (ea.trans ka e2) k2 f2 _ ?_
            rw [s2]
            have x2 : Ext w' w2 := xa.trans e2.ext
            cases h2 : mb Γ2 w1.st with
            | nx Γ3 st3 => rw [h2] at q; exact fun w3 σ3 b1 b2 b3 b4 b5 => ⟨w3, Γ3, rfl, b1, x2.trans b2, b3, b5, by rw [b4]; exact q.shift (e2.ext.trans b2)⟩
            | ct Γ3 st3 => rw [h2] at q; exact fun w3 σ3 b1 b2 b3 b4 b5 => ⟨w3, Γ3, rfl, b1, x2.trans b2, b3, b5, by rw [b4]; exact q.shift (e2.ext.trans b2)⟩
            | bk Γ3 st3 => rw [h2] at q; exact fun w3 σ3 b1 b2 b3 b4 b5 => q w3 σ3 b1 (e2.ext.trans b2) b3 b4 b5
            | ret d st3 => rw [h2] at q; exact q
            | err x st3 Γ3 => rw [h2] at q; exact fun c dd w3 σ3 b1 b2 => q c dd w3 σ3 b1 (e2.ext.trans b2)
            | no => rw [h2] at q; exact q.elim
    | _ => exact p'.elim
theorem ps_for' {iter tg : Expr} {body : List Stmt} {mi : EM} {mg' : GM} {mb : SM} {is : List Nat} {pos : Pos} (hi : PIt P wd K mg base k N sc W tg iter mi) (hg : PGt P wd K mg base k N sc W tg mg' is) (hb : PSl P wd K mg base k N sc W body mb) (hs : ∀ env x, foldedSetIterable iter env x = pure x := by intro _ _; rfl) : PSt P wd K mg base k N sc W (.For tg iter body [] pos) (sFor mi mg' mb) := by
  obtain ⟨ti, pi, ri⟩ := hi
  obtain ⟨tg', pg, rg⟩ := hg
  obtain ⟨tb, pb, rb⟩ := hb
  exact ⟨_, fun X g => ps_for g.pass g.calm (pi X g) (pg X g) (pb X g) (hs X.env), rts_for ri rg rb⟩
end
end DL
namespace DL
open PySem L2
section
variable {P : Program} {wd : World} {K : PySem.W.Frag} {mg : Str → Option Value} {base : Heap} {k : Nat} {N : List Str} {sc : SC} {W : WX}

/-! ### walks: sources -/
theorem PI.or {X : Cx} {tg e : Expr} {a b : TI} (h : PI X tg e a) (h' : PI X tg e b) : PI X tg e (fun σ H R => a σ H R ∨ b σ H R) := ⟨fun pins s σ H R I q => q.elim (h.run pins s σ H R I) (h'.run pins s σ H R I)⟩
def kD : Key → D
  | .inl i => .int i
  | .inr x => .str x
theorem rep_kV {w : Wd} : ∀ k : Key, Rep K w (kV k) (kD k)
  | .inl _ => .int
  | .inr _ => .str
def eIter (m : EM) : EM := fun Γ st => (m Γ st).bind fun d s => match d with
  | .lst xs => .ok (.tup xs) s
  | .tup xs => .ok (.tup xs) s
  | .dct kvs => .ok (.tup (kvs.map fun p => kD p.1)) s
  | _ => .no
theorem wlk_keys {w : Wd} {a : Addr} {o : Obj} {vs : List (Key × V)} {xs : List (Key × D)} (h : w.M a = some (.frz o (.dK vs))) (r : RepP K w vs xs) : Wlk K w (Itk a o vs) (xs.map fun p => kD p.1) := fun i w1 e k => by
  have h1 : w1.H a = some (.frz o (.dK vs)) := k.ex _ _ (e.mono _ _ h)
  refine ⟨fun d hd => ?_, fun hn => ⟨h1, by rw [r.len]; have := List.getElem?_eq_none_iff.mp hn; simpa using this⟩⟩
  rw [List.getElem?_map] at hd
  cases q : xs[i]? with
  | none => rw [q] at hd; cases hd
  | some p =>
    rw [q] at hd
    cases hd
    have hl : i < vs.length := by rw [r.len]; exact getElem?_lt q
    refine ⟨⟨h1, hl⟩, fun x H2 y => ⟨w1, y.1.symm, rfl, Evo.refl w1, k, ?_⟩⟩
    obtain ⟨k', v, hv, rfl⟩ := y.2
    have e1 : (vs.map (·.1))[i]? = some k' := by rw [List.getElem?_map, hv]; rfl
    rw [r.1, List.getElem?_map, q] at e1
    have e2 : p.1 = k' := Option.some.inj e1
    rw [← e2]
    exact rep_kV p.1
theorem pi_any {tg e : Expr} {m : EM} (h : PR P wd K mg base k N sc W e m) : PIt P wd K mg base k N sc W tg e (eIter m) := by
  obtain ⟨t, p, r⟩ := h
  refine ⟨fun σ H R => iList K t σ H R ∨ iTup K t σ H R ∨ iKeys t σ H R, fun X g => PI.or (by have := pi_list (tg := tg) (p X g); rw [g.kk] at this; exact this) (PI.or (by have := pi_tup (tg := tg) (p X g); rw [g.kk] at this; exact this) (pi_keys (p X g))), ?_⟩
  intro H0 w Γ σ ok f R q
  have q' : PostI K w ((m Γ w.st).bind _) R (at_ W σ) := q
  cases e : m Γ w.st with
  | err x st => rw [e] at q'; exact .inl (r H0 w Γ σ ok f _ (by rw [e]; exact q'))
  | no => rw [e] at q'; exact q'.elim
  | ok d st =>
    rw [e] at q'
    cases d with
    | lst xs => exact .inl (r H0 w Γ σ ok f _ (by
        rw [e]
        intro v w' ev k' s rv
        cases rv with
        | lst m l z => exact ⟨_, rfl, ⟨_, SqL.of (k'.ex _ _ m)⟩, q' _ w' ev k' s (itr_list m ⟨l, z⟩)⟩))
    | tup xs => exact .inr (.inl (r H0 w Γ σ ok f _ (by
        rw [e]
        intro v w' ev k' s rv
        cases rv with
        | tup m l z => exact ⟨_, rfl, ⟨_, k'.sqT m⟩, q' _ w' ev k' s (itr_tup m ⟨l, z⟩)⟩)))
    | dct xs => exact .inr (.inr (r H0 w Γ σ ok f _ (by
        rw [e]
        intro v w' ev k' s rv
        cases rv with
        | dct m l z => exact ⟨_, _, rfl, .inl ⟨_, k'.ex _ _ m, q' _ w' ev k' s (wlk_keys m ⟨l, z⟩)⟩⟩)))
    | _ => exact q'.elim
/-- range -/
def eRng1 (ms : EM) : EM := fun Γ st => (ms Γ st).bind fun d s => match d with
  | .tup [.int j] => if -4611686018427387904 ≤ j ∧ j < 4611686018427387904 then .ok (.tup (rng 0 1 j.toNat)) s else .no
  | _ => .no
def eRng2 (ms : EM) : EM := fun Γ st => (ms Γ st).bind fun d s => match d with
  | .tup [.int i, .int j] => if -4611686018427387904 ≤ i ∧ i < 4611686018427387904 ∧ -4611686018427387904 ≤ j ∧ j < 4611686018427387904 then .ok (.tup (rng i 1 (j - i).toNat)) s else .no
  | _ => .no
theorem pi_rng1 {tg a : Expr} {ms : EM} {p pos : Pos} (hm : mg "range" = none) (ha : PAr P wd K mg base k N sc W [a] ms) (hg : sc.s.names.lookup ("range" : Str) = some .globalImplicit := by rfl) (hs : ∀ env, starEach [a] env = [(false, eval a env)] := by intro _; rfl) :
    PIt P wd K mg base k N sc W tg (.Call (.Name "range" p) [a] [] pos) (eRng1 ms) := by
  obtain ⟨t, pt, r⟩ := ha
  refine ⟨_, fun X g => pi_range1 (by unfold Gl PySem.Env.kindOf; rw [g.scp]; exact hg) (by rw [g.mg]; exact hm) (pt X g) (hs X.env), ?_⟩
  intro H0 w Γ σ ok f R q
  refine RTA.use (P := fun w r => PostI K w r R (at_ W σ)) r ok f (fun _ _ e k p => p.shift e k) (fun _ _ p => p) (fun p => p) (fun d st hb => by cases d <;> first | rfl | exact absurd rfl (hb _)) q fun ds vs w1 e1 k1 f1 r1 p1 => ?_
  match ds, r1, p1 with
  | [.int j], r1, p1 =>
    obtain ⟨v, us, rfl, rv, ru⟩ := r1.inv
    rw [ru.inv0]
    cases rv
    have p2 : PostI K w1 (if -4611686018427387904 ≤ j ∧ j < 4611686018427387904 then .ok (.tup (rng 0 1 j.toNat)) w1.st else .no) R (at_ W σ) := p1
    by_cases h : -4611686018427387904 ≤ j ∧ j < 4611686018427387904
    · rw [if_pos h] at p2
      exact ⟨j, rfl, h.1, h.2, p2 _ w1 (Evo.refl w1) k1 rfl itr_rng⟩
    · rw [if_neg h] at p2; exact p2.elim
theorem pi_rng2 {tg a b : Expr} {ms : EM} {p pos : Pos} (hm : mg "range" = none) (ha : PAr P wd K mg base k N sc W [a, b] ms) (hg : sc.s.names.lookup ("range" : Str) = some .globalImplicit := by rfl) (hs : ∀ env, starEach [a, b] env = [(false, eval a env), (false, eval b env)] := by intro _; rfl) (hs2 : ∀ env, starEach [b] env = [(false, eval b env)] := by intro _; rfl) :
    PIt P wd K mg base k N sc W tg (.Call (.Name "range" p) [a, b] [] pos) (eRng2 ms) := by
  obtain ⟨t, pt, r⟩ := ha
  refine ⟨_, fun X g => pi_range2 (by unfold Gl PySem.Env.kindOf; rw [g.scp]; exact hg) (by rw [g.mg]; exact hm) (pt X g) (hs X.env) (hs2 X.env), ?_⟩
  intro H0 w Γ σ ok f R q
  refine RTA.use (P := fun w r => PostI K w r R (at_ W σ)) r ok f (fun _ _ e k p => p.shift e k) (fun _ _ p => p) (fun p => p) (fun d st hb => by cases d <;> first | rfl | exact absurd rfl (hb _)) q fun ds vs w1 e1 k1 f1 r1 p1 => ?_
  match ds, r1, p1 with
  | [.int i, .int j], r1, p1 =>
    obtain ⟨v, us, rfl, rv, ru⟩ := r1.inv
    obtain ⟨v2, us2, rfl, rv2, ru2⟩ := ru.inv
    rw [ru2.inv0]
    cases rv
    cases rv2
    have p2 : PostI K w1 (if -4611686018427387904 ≤ i ∧ i < 4611686018427387904 ∧ -4611686018427387904 ≤ j ∧ j < 4611686018427387904 then .ok (.tup (rng i 1 (j - i).toNat)) w1.st else .no) R (at_ W σ) := p1
    by_cases h : -4611686018427387904 ≤ i ∧ i < 4611686018427387904 ∧ -4611686018427387904 ≤ j ∧ j < 4611686018427387904
    · rw [if_pos h] at p2
      exact ⟨i, j, rfl, h, p2 _ w1 (Evo.refl w1) k1 rfl itr_rng⟩
    · rw [if_neg h] at p2; exact p2.elim

/-! ### new things -/
def PostN (K : PySem.W.Frag) (w : Wd) (r : ER) (Q : VK) (W : XK) : Prop := match r with
  | .ok d st' => ∀ a o w', Evo w w' → Ok K w' → w'.st = st' → w.H a = none → w'.H a = some o → w'.M a = none → (∀ l, l < w'.st.length → w'.ρ l ≠ a) → RO K w' o d → Q (.ref a) w'.H
  | .err x st' => ∀ c dd w', Evo w w' → Ok K w' → w'.st = st' → RepX K w' c dd x → W c dd w'.H
  | .no => False
def RTN (K : PySem.W.Frag) (W : WX) (t : TE) (m : EM) : Prop := ∀ (H0 : Hp) (w : Wd) (Γ : DEnv) (σ : L2.St), Ok K w → Fr K H0 w Γ σ → ∀ Q : VK, PostN K w (m Γ w.st) Q (at_ W σ) → t σ w.H Q
def PN (P : Program) (wd : World) (K : PySem.W.Frag) (mg : Str → Option Value) (base : Heap) (k : Nat) (N : List Str) (sc : SC) (W : WX) (e : Expr) (m : EM) : Prop := ∃ t : TE, (∀ X, G P wd K mg base k N sc W X → PE X e t) ∧ RTN K W t m
theorem PostN.shift {w w' : Wd} (e : Evo w w') (k : Ok K w') {r : ER} {Q : VK} {E : XK} (p : PostN K w r Q E) : PostN K w' r Q E := by
  cases r with
  | ok d st => exact fun a o w2 e2 k2 s h => p a o w2 (e.trans k e2) k2 s (e.dom0 k h)
  | err x st => exact fun c dd w2 e2 k2 s r => p c dd w2 (e.trans k e2) k2 s r
  | no => exact p
/-- a new thing at a, not frozen -/
def Wd.al (w : Wd) (a : Addr) (o : HO) : Wd := { w with H := upd w.H a o }
theorem evo_al {w : Wd} (k : Ok K w) {a : Addr} (o : HO) (ha : w.H a = none) : Evo w (w.al a o) where
  mono := fun _ _ h => h
  rho := fun _ _ => rfl
  le := Nat.le_refl _
  newM := fun b u h n => absurd (h.symm.trans n) (fun q => nomatch q)
  newR := fun l h1 h2 => absurd (Nat.lt_of_lt_of_le h2 h1) (Nat.lt_irrefl _)
  keep := fun b u h _ _ => by show upd w.H a o b = _; rw [upd_ne (ne_of_none h ha)]; exact h
/-- a thing that is neither frozen nor in the store is changed -/
theorem ok_al {w : Wd} (k : Ok K w) {a : Addr} (o : HO) (hm : w.M a = Option.none) (hr : ∀ l, l < w.st.length → w.ρ l ≠ a) : Ok K (w.al a o) where
  ex := fun b u h => by
    show upd w.H a o b = _
    have h' : w.M b = some u := h
    rw [upd_ne (ne_of_none h' hm)]; exact k.ex b u h'
  sto := fun l d h => by
    obtain ⟨u, h1, h2⟩ := k.sto l d h
    refine ⟨u, ?_, h2.imp id fun ⟨h2, h3⟩ => ⟨h2, RO.ext (w := w) (w' := w.al a o) ⟨fun _ _ h => h, fun _ _ => rfl, Nat.le_refl _⟩ h3⟩⟩
    show upd w.H a o (w.ρ l) = _
    rw [upd_ne (hr l (getElem?_lt h))]; exact h1
  inj := k.inj
theorem Ok.noR {w : Wd} (k : Ok K w) {a : Addr} (ha : w.H a = Option.none) : ∀ l, l < w.st.length → w.ρ l ≠ a := fun l hl e => by
  obtain ⟨u, h1, _⟩ := k.sto l _ (List.getElem?_eq_getElem hl)
  rw [e, ha] at h1; cases h1
theorem PostN.al {w : Wd} {d : D} {Q : VK} {E : XK} (p : PostN K w (.ok d w.st) Q E) (k : Ok K w) {a : Addr} {o : HO} (ha : w.H a = none) (r : RO K w o d) : Q (.ref a) (upd w.H a o) :=
  p a o (w.al a o) (evo_al k o ha) (ok_al k o (k.none ha) (k.noR ha)) rfl ha upd_same (k.none ha) (k.noR ha) (r.evo (evo_al k o ha))
/-- a new list is frozen -/
theorem fz_new {w w' : Wd} {a : Addr} {vs : List V} {xs : List D} (e : Evo w w') (k : Ok K w') (ha : w.H a = none) (h : w'.H a = some (.lst vs)) (hm : w'.M a = none) (hr : ∀ l, l < w'.st.length → w'.ρ l ≠ a) (r : RepL K w' vs xs) :
    ∃ w2 : Wd, w2.H = w'.H ∧ w2.st = w'.st ∧ Evo w w2 ∧ Ok K w2 ∧ Rep K w2 (.ref a) (.lst xs) := by
  have x : Ext w' { w' with M := upd w'.M a (.lst vs) } := ⟨fun b u q => by show upd w'.M a _ b = _; rw [upd_ne (ne_of_none q hm)]; exact q, fun _ _ => rfl, Nat.le_refl _⟩
  refine ⟨{ w' with M := upd w'.M a (.lst vs) }, rfl, rfl, ⟨(e.ext.trans x).mono, e.rho, e.le, fun b u q n => ?_, e.newR, e.keep⟩, ⟨fun b u q => ?_, fun l d q => ?_, k.inj⟩, ?_⟩
  · by_cases z : b = a
    · rw [z]; exact ha
    · have q' : upd w'.M a (.lst vs) b = some u := q
      rw [upd_ne z] at q'; exact e.newM b u q' n
  · have q' : upd w'.M a (.lst vs) b = some u := q
    by_cases z : b = a
    · rw [z, upd_same] at q'; cases q'; rw [z]; exact h
    · rw [upd_ne z] at q'; exact k.ex b u q'
  · obtain ⟨u, h1, h2⟩ := k.sto l d q
    refine ⟨u, h1, h2.imp id fun ⟨h2, h3⟩ => ⟨?_, h3.ext x⟩⟩
    show upd w'.M a (.lst vs) (w'.ρ l) = _
    rw [upd_ne (hr l (getElem?_lt q))]; exact h2
  · have r' := r.ext x
    exact .lst (by show upd w'.M a _ a = _; exact upd_same) r'.1 r'.2
def IsL (m : EM) : Prop := ∀ Γ st d s, m Γ st = .ok d s → ∃ xs, d = .lst xs
theorem RTN.rt {t : TE} {m : EM} (h : RTN K W t m) (hl : IsL m) : RT K W t m := by
  intro H0 w Γ σ ok f Q p
  refine h H0 w Γ σ ok f Q ?_
  cases e : m Γ w.st with
  | err x st => rw [e] at p; exact p
  | no => rw [e] at p; exact p
  | ok d st =>
    rw [e] at p
    obtain ⟨xs, rfl⟩ := hl _ _ _ _ e
    intro a o w' ev k' s ha ho hm hr r
    obtain ⟨vs, rfl, rl⟩ := r
    obtain ⟨w2, q1, q2, q3, q4, q5⟩ := fz_new ev k' ha ho hm hr rl
    rw [← q1]
    exact p _ w2 q3 q4 (q2.trans s) q5
theorem PN.rt {e : Expr} {m : EM} (h : PN P wd K mg base k N sc W e m) (hl : IsL m) : PR P wd K mg base k N sc W e m := let ⟨t, a, b⟩ := h; ⟨t, a, b.rt hl⟩

/-! ### comprehensions -/
/-- a comprehension's scope within sc -/
def blkS (scope : Scope) (sc : SC) : SC := ⟨{ scope with names := scope.names.map fun (n, k) => if (k == .free && sc.s.kind == .function && sc.s.names.lookup n == some .cell) then (n, .cell) else (n, k) }, fun x => scope.names.lookup x == some .cell⟩
abbrev WF : WX := fun _ _ _ _ => False
theorem g_blk {X : Cx} {scope : Scope} {s : Shared} {H : Hp} {C : Addr} {cl : List (Str × Addr)} {fp : List Addr} (g : G P wd K mg base k N sc W X) : G P wd K mg base k N (blkS scope sc) WF (X.blk s H scope (compEnvC scope cl C X.env) fp) where
  prog := g.prog
  wd := g.wd
  kk := g.kk
  mg := g.mg
  bs := g.bs
  nn := g.nn
  scp := by show relabel scope X.env = _; unfold relabel blkS PySem.Env.kindOf; rw [g.scp]
  calm := g.calm
  room := g.room
  grd := g.grd
  tk := fun _ _ x => by obtain ⟨_, _, _, _, _, _, _, _, _, _, _, _, _, _, _, _, z⟩ := x; exact z
  pass := PassesOwn.never
  fnc := rfl
def wipeE (Γ : DEnv) : List Nat → DEnv
  | [] => Γ
  | v :: vs => (wipeE Γ vs).set v .no
theorem fr_no {H0 : Hp} {w : Wd} {Γ : DEnv} {σ : L2.St} (f : Fr K H0 w Γ σ) (i : Nat) : Fr K H0 w (Γ.set i .no) (σ.set i none) where
  len := by simp [f.len]
  sh := fun j e h => by
    by_cases q : i = j
    · subst q
      have hl : i < Γ.length := by have := (List.getElem?_eq_some_iff.mp h).1; simpa using this
      rw [List.getElem?_set_self hl] at h; cases h
    · rw [List.getElem?_set_ne q] at h ⊢; exact f.sh j e h
  ow := fun j e h => by
    by_cases q : i = j
    · subst q
      have hl : i < Γ.length := by have := (List.getElem?_eq_some_iff.mp h).1; simpa using this
      rw [List.getElem?_set_self hl] at h; cases h
    · rw [List.getElem?_set_ne q] at h ⊢; exact f.ow j e h
  dj := fun a b d1 d2 x ne h1 h2 h3 h4 => by
    have na : i ≠ a := fun q => by
      subst q
      have hl : i < Γ.length := by have := (List.getElem?_eq_some_iff.mp h1).1; simpa using this
      rw [List.getElem?_set_self hl] at h1; cases h1
    have nb : i ≠ b := fun q => by
      subst q
      have hl : i < Γ.length := by have := (List.getElem?_eq_some_iff.mp h2).1; simpa using this
      rw [List.getElem?_set_self hl] at h2; cases h2
    rw [List.getElem?_set_ne na] at h1 h3
    rw [List.getElem?_set_ne nb] at h2 h4
    exact f.dj a b d1 d2 x ne h1 h2 h3 h4
theorem fr_wipe {H0 : Hp} {w : Wd} {Γ : DEnv} {σ : L2.St} (f : Fr K H0 w Γ σ) : ∀ vs : List Nat, Fr K H0 w (wipeE Γ vs) (wipe σ vs)
  | [] => f
  | v :: vs => fr_no (fr_wipe f vs) v
def lcL (mg : GM) (mt me : EM) : List D → DEnv → Store → List D → ER
  | [], _, st, acc => .ok (.lst acc) st
  | d :: ds, Γ, st, acc => match mg d Γ with
    | none => .no
    | some Γ1 => match mt Γ1 st with
      | .ok (.bl true) s1 => match me Γ1 s1 with
        | .ok x s2 => if acc.length < 16777216 then lcL mg mt me ds Γ s2 (acc ++ [x]) else .no
        | _ => .no
      | .ok (.bl false) s1 => lcL mg mt me ds Γ s1 acc
      | _ => .no
def eLc (vs : List Nat) (mi : EM) (mg : GM) (mt me : EM) : EM := fun Γ st => (mi Γ st).bind fun d s => match d with | .tup ds => lcL mg mt me ds (wipeE Γ vs) s [] | _ => .no
def eYes : EM := fun _ st => .ok (.bl true) st
def PTj (P : Program) (wd : World) (K : PySem.W.Frag) (mg : Str → Option Value) (base : Heap) (k : Nat) (N : List Str) (sc : SC) (W : WX) (es : List Expr) (m : EM) : Prop := ∃ t : TT, (∀ X, G P wd K mg base k N sc W X → PTs X es t) ∧ RTT K W t m
theorem pj_nil : PTj P wd K mg base k N sc W [] eYes := ⟨_, fun X g => pts_nil, fun H0 w Γ σ ok f Q p => p w (Evo.refl w) ok rfl⟩
theorem pj_one {e : Expr} {m : EM} (h : PTt P wd K mg base k N sc W e m) : PTj P wd K mg base k N sc W [e] m := let ⟨_, p, r⟩ := h; ⟨_, fun X g => pts_one (p X g), r⟩
theorem rtn_lc {wi : TI} {g : TG} {tt : TT} {te : TE} {mi mt me : EM} {mg' : GM} {is vs : List Nat} (hi : RTI K W wi mi) (hg : RTG K g mg' is) (his : ∀ i ∈ is, i ∈ vs) (ht : RTT K WF tt mt) (he : RT K WF te me) : RTN K W (tLc wi g tt te vs) (eLc vs mi mg' mt me) := by
  intro H0 w Γ σ ok f Q p
  refine hi H0 w Γ σ ok f _ ?_
  have p' : PostN K w ((mi Γ w.st).bind _) Q (at_ W σ) := p
  cases h : mi Γ w.st with
  | no => rw [h] at p'; exact p'
  | err x st => rw [h] at p'; exact p'
  | ok d st =>
    rw [h] at p'
    cases d with
    | tup ds =>
      intro J w' ev k' s it
      subst s
      have p1 : PostN K w' (lcL mg' mt me ds (wipeE Γ vs) w'.st []) Q (at_ W σ) := PostN.shift ev k' p'
      have f' := f.evo ev
      intro D hD
      have a0 := evo_al k' (.lst []) hD
      have o0 := ok_al k' (.lst []) (k'.none hD) (k'.noR hD)
      refine ⟨fun i m H => ∃ (w1 : Wd) (acc : List V) (acd : List DL.D), H = w1.H ∧ Evo w' w1 ∧ Ok K w1 ∧ w1.H D = some (.lst acc) ∧ w1.M D = none ∧ (∀ l, l < w1.st.length → w1.ρ l ≠ D) ∧ RepL K w1 acc acd ∧ m = ds.length - i ∧ i ≤ ds.length ∧ PostN K w' (lcL mg' mt me (ds.drop i) (wipeE Γ vs) w1.st acd) Q (at_ W σ),
        ⟨ds.length, w'.al D (.lst []), [], [], rfl, a0, o0, upd_same, k'.none hD, k'.noR hD, .nil, rfl, Nat.zero_le _, p1⟩, ?_⟩
      rintro i m H ⟨w1, acc, acd, rfl, e1, k1, hd1, hm1, hr1, ra, rfl, hle, q⟩
      obtain ⟨go, stop⟩ := it i w1 e1.ext k1
      cases hd : ds[i]? with
      | none =>
        refine .inl ⟨stop hd, ?_⟩
        rw [List.drop_eq_nil_of_le (List.getElem?_eq_none_iff.mp hd)] at q
        exact q D _ w1 e1 k1 rfl hD hd1 hm1 hr1 ⟨acc, rfl, ra⟩
      | some d =>
        obtain ⟨g1, g2⟩ := go d hd
        have hl := getElem?_lt hd
        refine .inr ⟨g1, fun H => ∃ (w1 : Wd) (acc : List V) (acd : List DL.D), H = w1.H ∧ Evo w' w1 ∧ Ok K w1 ∧ w1.H D = some (.lst acc) ∧ w1.M D = none ∧ (∀ l, l < w1.st.length → w1.ρ l ≠ D) ∧ RepL K w1 acc acd ∧ PostN K w' (lcL mg' mt me (ds.drop (i + 1)) (wipeE Γ vs) w1.st acd) Q (at_ W σ), ?_, fun x H2 y => ?_⟩
        · rintro H' ⟨w3, acc3, acd3, rfl, b1, b2, b3, b4, b5, b6, b7⟩
          exact ⟨ds.length - (i + 1), by omega, w3, acc3, acd3, rfl, b1, b2, b3, b4, b5, b6, rfl, hl, b7⟩
        · obtain ⟨w2, rfl, s2, e2, k2, r2⟩ := g2 x H2 y
          rw [List.drop_eq_getElem_cons hl] at q
          have hd' : ds[i] = d := by rw [List.getElem?_eq_getElem hl] at hd; exact Option.some.inj hd
          rw [hd'] at q
          unfold lcL at q
          have fw : Fr K H0 w2 (wipeE Γ vs) (wipe σ vs) := ((fr_wipe f' vs).evo e1).evo e2
          -- what is at D goes on standing while a part is evaluated
          have stand : ∀ {w3 w4 : Wd}, Evo w3 w4 → w3.H D = some (.lst acc) → w3.M D = none → (∀ l, l < w3.st.length → w3.ρ l ≠ D) → w4.H D = some (.lst acc) ∧ w4.M D = none ∧ ∀ l, l < w4.st.length → w4.ρ l ≠ D := fun {w3 w4} e h1 h2 h3 => by
            refine ⟨e.keep D _ h1 h2 h3, ?_, fun l hl z => ?_⟩
            · cases z : w4.M D with
              | none => rfl
              | some u => have y := e.newM D u z h2; rw [h1] at y; cases y
            · by_cases z2 : l < w3.st.length
              · exact h3 l z2 ((e.rho l z2).symm.trans z)
              · have y := e.newR l (Nat.le_of_not_lt z2) hl
                rw [z, h1] at y; cases y
          cases h1 : mg' d (wipeE Γ vs) with
          | none => rw [h1] at q; exact q.elim
          | some Γ2 =>
            rw [h1] at q
            dsimp only at q
            refine hg H0 w2 _ Γ2 _ x d k2 fw r2 h1 _ fun σ2 f2 wp => ⟨(wp vs his).trans (wipe_wipe vs), ?_⟩
            refine ht H0 w2 Γ2 σ2 k2 f2 _ ?_
            rw [s2]
            obtain ⟨c1, c2, c3⟩ := stand e2 hd1 hm1 hr1
            cases h2 : mt Γ2 w1.st with
            | no => rw [h2] at q; exact q.elim
            | err x st => rw [h2] at q; exact q.elim
            | ok b s1 =>
              rw [h2] at q
              cases b with
              | bl b =>
                intro w3 e3 k3 s3
                obtain ⟨d1, d2, d3⟩ := stand e3 c1 c2 c3
                have e13 : Evo w' w3 := (e1.trans k1 e2).trans k2 e3
                cases b with
                | false =>
                  refine iteF ⟨w3, acc, acd, rfl, e13, k3, d1, d2, d3, (ra.evo e2).evo e3, ?_⟩
                  rw [s3]; exact q
                | true =>
                  refine iteT ?_
                  refine he H0 w3 Γ2 σ2 k3 (f2.evo e3) _ ?_
                  rw [s3]
                  dsimp only at q
                  cases h3 : me Γ2 s1 with
                  | no => rw [h3] at q; exact q.elim
                  | err x st => rw [h3] at q; exact q.elim
                  | ok x' s4 =>
                    rw [h3] at q
                    dsimp only at q
                    intro v w4 e4 k4 s4' rv
                    obtain ⟨y1, y2, y3⟩ := stand e4 d1 d2 d3
                    by_cases hlen : acd.length < 16777216
                    · rw [if_pos hlen] at q
                      have ra4 := ((ra.evo e2).evo e3).evo e4
                      refine ⟨acc, y1, by rw [ra.1, sizeLine_eq]; exact hlen, w4.al D (.lst (acc ++ [v])), acc ++ [v], acd ++ [x'], rfl, ?_, ok_al k4 _ y2 y3, upd_same, y2, y3, RepL.ext (w := w4) (w' := w4.al D _) ⟨fun _ _ h => h, fun _ _ => rfl, Nat.le_refl _⟩ (ra4.append (.cons rv .nil)), ?_⟩
                      · have e14 := e13.trans k3 e4
                        exact ⟨e14.mono, e14.rho, e14.le, e14.newM, e14.newR, fun b u hb hmb hrb => by
                          show upd w4.H D _ b = _
                          rw [upd_ne (ne_of_none hb hD)]; exact e14.keep b u hb hmb hrb⟩
                      · show PostN K w' (lcL mg' mt me _ _ w4.st _) Q _
                        rw [s4']; exact q
                    · rw [if_neg hlen] at q; exact q.elim
              | _ => exact q.elim
    | _ => exact p'.elim
theorem pn_lc {elt tg iter : Expr} {ifs : List Expr} {scope : Scope} {own : List (Str × Nat)} {pos : Pos} {mi mt me : EM} {mg' : GM} {is : List Nat} (nd : N.Nodup) (ok : BlkOk N sc.s scope own) (hi : PIt P wd K mg base k N sc W tg iter mi) (hg : PGt P wd K mg base k N (blkS scope sc) WF tg mg' is)
    (ht : PTj P wd K mg base k N (blkS scope sc) WF ifs mt) (he : PR P wd K mg base k N (blkS scope sc) WF elt me) (his : ∀ i ∈ is, i ∈ own.map (·.2) := by decide) (hs : ∀ env x, foldedSetIterable iter env x = pure x := by intro _ _; rfl) :
    PN P wd K mg base k N sc W (.ListComp elt [⟨tg, iter, ifs, 0⟩] scope pos) (eLc (own.map (·.2)) mi mg' mt me) := by
  obtain ⟨ti, pi, ri⟩ := hi
  obtain ⟨tg', pg, rg⟩ := hg
  obtain ⟨tt, pt, rt⟩ := ht
  obtain ⟨te, pe, re⟩ := he
  exact ⟨_, fun X g => pe_lc g.calm (by rw [g.nn]; exact nd) (pi X g) (by rw [g.nn, g.scp]; exact ok) (fun s H C cl fp => pg _ (g_blk g)) (fun s H C cl fp => pt _ (g_blk g)) (fun s H C cl fp => pe _ (g_blk g)) (hs X.env), rtn_lc ri rg his rt re⟩
theorem lcL_lst {mg' : GM} {mt me : EM} {d : DL.D} {s : Store} : ∀ (ds : List DL.D) (Γ : DEnv) (st : Store) (acc : List DL.D), lcL mg' mt me ds Γ st acc = .ok d s → ∃ xs, d = .lst xs
  | [], Γ, st, acc, h => by cases h; exact ⟨_, rfl⟩
  | x :: ds, Γ, st, acc, h => by
    unfold lcL at h
    split at h
    · cases h
    · split at h
      · split at h
        · split at h
          · exact lcL_lst ds _ _ _ h
          · cases h
        · cases h
      · exact lcL_lst ds _ _ _ h
      · cases h
theorem isL_lc {vs : List Nat} {mi mt me : EM} {mg' : GM} : IsL (eLc vs mi mg' mt me) := fun Γ st d s h => by
  have h' : (mi Γ st).bind _ = .ok d s := h
  cases e : mi Γ st with
  | no => rw [e] at h'; cases h'
  | err x st => rw [e] at h'; cases h'
  | ok x s1 =>
    rw [e] at h'
    cases x with
    | tup ds => exact lcL_lst ds _ _ _ h'
    | _ => cases h'
theorem pr_lc {elt tg iter : Expr} {ifs : List Expr} {scope : Scope} {own : List (Str × Nat)} {pos : Pos} {mi mt me : EM} {mg' : GM} {is : List Nat} (nd : N.Nodup) (ok : BlkOk N sc.s scope own) (hi : PIt P wd K mg base k N sc W tg iter mi) (hg : PGt P wd K mg base k N (blkS scope sc) WF tg mg' is)
    (ht : PTj P wd K mg base k N (blkS scope sc) WF ifs mt) (he : PR P wd K mg base k N (blkS scope sc) WF elt me) (his : ∀ i ∈ is, i ∈ own.map (·.2) := by decide) (hs : ∀ env x, foldedSetIterable iter env x = pure x := by intro _ _; rfl) :
    PR P wd K mg base k N sc W (.ListComp elt [⟨tg, iter, ifs, 0⟩] scope pos) (eLc (own.map (·.2)) mi mg' mt me) := (pn_lc nd ok hi hg ht he his hs).rt isL_lc
/-- y = [..] -/
theorem ps_setlc (i : Nat) {y : Str} {py : Pos} {elt tg iter : Expr} {ifs : List Expr} {scope : Scope} {own : List (Str × Nat)} {pos spos : Pos} {mi mt me : EM} {mg' : GM} {is : List Nat} (nd : N.Nodup) (ok : BlkOk N sc.s scope own) (hi : PIt P wd K mg base k N sc W tg iter mi) (hg : PGt P wd K mg base k N (blkS scope sc) WF tg mg' is)
    (ht : PTj P wd K mg base k N (blkS scope sc) WF ifs mt) (he : PR P wd K mg base k N (blkS scope sc) WF elt me) (hsw : ∀ env, env.scope = sc.s → swapsWith (.ListComp elt [⟨tg, iter, ifs, 0⟩] scope pos) (some (.Name y py)) spos.line env = pure true) (hy : N[i]? = some y := by rfl) (hyl : sc.s.names.lookup y = some .local := by rfl)
    (his : ∀ i ∈ is, i ∈ own.map (·.2) := by decide) (hs : ∀ env x, foldedSetIterable iter env x = pure x := by intro _ _; rfl) :
    PSt P wd K mg base k N sc W (.Assign [.Name y py] (.ListComp elt [⟨tg, iter, ifs, 0⟩] scope pos) spos) (sAsg i (eLc (own.map (·.2)) mi mg' mt me)) := by
  obtain ⟨ti, pi, ri⟩ := hi
  obtain ⟨tg', pg, rg⟩ := hg
  obtain ⟨tt, pt, rt⟩ := ht
  obtain ⟨te, pe, re⟩ := he
  refine ⟨_, fun X g => ps_setLc g.calm (by rw [g.nn]; exact nd) (by rw [g.nn]; exact hy) (by rw [g.scp]; exact hyl) (hsw X.env g.scp) (pi X g) (by rw [g.nn, g.scp]; exact ok) (fun s H C cl fp => pg _ (g_blk g)) (fun s H C cl fp => pt _ (g_blk g)) (fun s H C cl fp => pe _ (g_blk g)) (hs X.env), ?_⟩
  have r : RT K W _ _ := (rtn_lc ri rg his rt re).rt isL_lc
  intro w0 w Γ σ e0 ok f Dn q
  exact r.useS e0 ok f q fun d v w1 e1 k1 f1 r1 x1 p1 => p1 w1 _ e1 (Ext.refl w1) k1 rfl (fr_set f1 r1 i)
end
end DL
namespace DL
open PySem L2
section
variable {P : Program} {wd : World} {K : PySem.W.Frag} {mg : Str → Option Value} {base : Heap} {k : Nat} {N : List Str} {sc : SC} {W : WX}

/-! ### the store's things change -/
theorem ext_same {w w' : Wd} (m : w'.M = w.M) (r : w'.ρ = w.ρ) (l : w'.st.length = w.st.length) : Ext w w' := ⟨fun _ _ h => by rw [m]; exact h, fun _ _ => by rw [r], Nat.le_of_eq l.symm⟩
def Wd.put (w : Wd) (l : Nat) (d : D) (o : HO) : Wd := { w with st := w.st.set l d, H := upd w.H (w.ρ l) o }
theorem ext_put {w : Wd} {l : Nat} {d : D} {o : HO} : Ext w (w.put l d o) := ext_same rfl rfl (by show (w.st.set l d).length = _; simp)
theorem put_ok {w : Wd} (k : Ok K w) {l : Nat} {d : D} {o : HO} (hl : l < w.st.length) (h2 : w.M (w.ρ l) = none) (r : RO K w o d) : Evo w (w.put l d o) ∧ Ok K (w.put l d o) := by
  obtain ⟨u, h1, _⟩ := k.sto l _ (List.getElem?_eq_getElem hl)
  refine ⟨⟨fun _ _ h => h, fun _ _ => rfl, ext_put.le, fun a o h n => absurd (h.symm.trans n) (fun q => nomatch q), fun m a b => ?_, fun a u' h n nl => ?_⟩, ⟨fun a u' h => ?_, fun m e h => ?_, fun a b ha hb => ?_⟩⟩
  · have b' : m < (w.st.set l d).length := b
    simp at b'; omega
  · show upd w.H _ o a = _
    rw [upd_ne (Ne.symm (nl l hl))]; exact h
  · show upd w.H _ o a = _
    have h' : w.M a = some u' := h
    rw [upd_ne (ne_of_none h' h2)]; exact k.ex a u' h'
  · have h' : (w.st.set l d)[m]? = some e := h
    by_cases q : l = m
    · subst q
      rw [List.getElem?_set_self hl] at h'; cases h'
      exact ⟨o, upd_same, .inr ⟨h2, r.ext ext_put⟩⟩
    · rw [List.getElem?_set_ne q] at h'
      obtain ⟨u2, g1, g2⟩ := k.sto m e h'
      refine ⟨u2, ?_, g2.imp id fun ⟨g2, g3⟩ => ⟨g2, g3.ext ext_put⟩⟩
      show upd w.H _ o (w.ρ m) = _
      rw [upd_ne (fun z => q (k.inj l m hl (getElem?_lt h') z.symm))]; exact g1
  · have ha' : a < (w.st.set l d).length := ha
    have hb' : b < (w.st.set l d).length := hb
    simp at ha' hb'
    exact k.inj a b ha' hb'
/-- o[i] = e: o a list, a dict of the store -/
def setAt (d : D) (i x : D) : Option D := match d, i with
  | .lst xs, .int j => match ixN xs.length j with | some n => some (.lst (xs.set n x)) | none => none
  | _, _ => none
def sSub (mo mi me : EM) : SM := fun Γ st => (me Γ st).bs Γ fun x s1 => (mo Γ s1).bs Γ fun o s2 => (mi Γ s2).bs Γ fun i s3 => match o with
  | .ref l => match s3[l]? with
    | some d => match setAt d i x with
      | some d' => .nx Γ (s3.set l d')
      | none => .no
    | none => .no
  | _ => .no
theorem ps_sub' {o i e : Expr} {mo mi me : EM} {pos pos' : Pos} (he : PR P wd K mg base k N sc W e me) (ho : PR P wd K mg base k N sc W o mo) (hi : PR P wd K mg base k N sc W i mi)
    (ha : ∀ env v, assign (.Subscript o i pos') env v = (do let ov ← holding [v] (eval o env); let iv ← holding [v, ov] (eval i env); standAt pos'; holding [v, ov, iv] (setItem ov iv v); release [v, ov, iv] []) := by intro _ _; rfl)
    (hs : ∀ env, swapsWithSole [.Subscript o i pos'] e pos.line env = pure false := by intro _; rfl) (hw : ∀ env, swappedStores [.Subscript o i pos'] e env = pure none := by intro _; rfl) :
    PSt P wd K mg base k N sc W (.Assign [.Subscript o i pos'] e pos) (sSub mo mi me) := by
  obtain ⟨te, pe, re⟩ := he
  obtain ⟨to, po, ro⟩ := ho
  obtain ⟨ti, pi, ri⟩ := hi
  refine ⟨tAsg te (gSub to ti rSetL), fun X g => ps_asg (pe X g) (pg_sub (po X g) (pi X g) set_list (fun v => ha X.env v)) (hs X.env) (hw X.env), ?_⟩
  intro w0 w Γ σ e0 ok f Dn q
  refine re.useS e0 ok f q fun x v w1 e1 k1 f1 r1 x1 p1 => ?_
  refine ro.useS e1 k1 f1 p1 fun o u w2 e2 k2 f2 r2 x2 p2 => ?_
  refine ri.useS e2 k2 f2 p2 fun i y w3 e3 k3 f3 r3 x3 p3 => ?_
  have r1' := (r1.ext x2).ext x3
  cases r2 with
  | @ref l hl =>
    have hl3 : l < w3.st.length := Nat.lt_of_lt_of_le hl x3.le
    dsimp only at p3
    rw [List.getElem?_eq_getElem hl3] at p3
    dsimp only at p3
    have lv := fun h => k3.live (List.getElem?_eq_getElem hl3) h
    revert p3 lv
    cases w3.st[l] with
    | lst xs =>
      cases i with
      | int j =>
        cases r3
        intro p3 lv
        obtain ⟨ob, h1, h2, h3⟩ := lv (by simp)
        obtain ⟨vs, rfl, rl⟩ := h3
        dsimp only [setAt] at p3
        cases hj : ixN xs.length j with
        | none => rw [hj] at p3; exact p3.elim
        | some n =>
          rw [hj] at p3
          dsimp only at p3
          obtain ⟨ev, kv⟩ := put_ok (o := .lst (vs.set n v)) (d := .lst (xs.set n x)) k3 hl3 h2 ⟨_, rfl, rl.set r1' n⟩
          rw [← x3.rho l hl]
          refine ⟨w3.ρ l, vs, j, n, rfl, rfl, h1, by rw [rl.1]; exact hj, ?_⟩
          exact p3 (w3.put l _ _) σ (e3.trans k3 ev) ev.ext kv rfl (f3.evo ev)
      | _ => intro p3; exact p3.elim
    | _ => intro p3; exact p3.elim
  | _ => exact p3.elim

/-! ### own things -/
def sNew (i : Nat) (m : EM) : SM := fun Γ st => (m Γ st).bs Γ fun d s => .nx (Γ.set i (.ow d)) s
theorem fr_own {H0 : Hp} {w : Wd} {Γ : DEnv} {σ : L2.St} (f : Fr K H0 w Γ σ) {a : Addr} {o : HO} {d : D} (ha : w.H a = some o) (hm : w.M a = none) (h0 : H0 a = none) (hr : ∀ l, l < w.st.length → w.ρ l ≠ a) (r : RO K w o d) (i : Nat)
    (hn : ∀ (j : Nat) (e : D), j ≠ i → Γ[j]? = some (.ow e) → σ[j]? ≠ some (some (.ref a))) : Fr K H0 w (Γ.set i (.ow d)) (σ.set i (some (.ref a))) where
  len := by simp [f.len]
  sh := fun j e h => by
    by_cases q : i = j
    · subst q
      have hl : i < Γ.length := by have := (List.getElem?_eq_some_iff.mp h).1; simpa using this
      rw [List.getElem?_set_self hl] at h; cases h
    · rw [List.getElem?_set_ne q] at h ⊢; exact f.sh j e h
  ow := fun j e h => by
    by_cases q : i = j
    · subst q
      have hl : i < Γ.length := by have := (List.getElem?_eq_some_iff.mp h).1; simpa using this
      rw [List.getElem?_set_self hl] at h; cases h
      exact ⟨a, o, List.getElem?_set_self (by rw [f.len]; exact hl), ha, hm, h0, hr, r⟩
    · rw [List.getElem?_set_ne q] at h ⊢; exact f.ow j e h
  dj := fun x y d1 d2 b ne h1 h2 h3 h4 => by
    by_cases qx : i = x
    · subst qx
      have hl : i < Γ.length := by have := (List.getElem?_eq_some_iff.mp h1).1; simpa using this
      rw [List.getElem?_set_self (by rw [f.len]; exact hl)] at h3
      cases h3
      rw [List.getElem?_set_ne ne] at h2 h4
      exact hn y d2 (Ne.symm ne) h2 h4
    · rw [List.getElem?_set_ne qx] at h1 h3
      by_cases qy : i = y
      · subst qy
        have hl : i < Γ.length := by have := (List.getElem?_eq_some_iff.mp h2).1; simpa using this
        rw [List.getElem?_set_self (by rw [f.len]; exact hl)] at h4
        cases h4
        exact hn x d1 (Ne.symm qx) h1 h3
      · rw [List.getElem?_set_ne qy] at h2 h4
        exact f.dj x y d1 d2 b ne h1 h2 h3 h4
/-- x = something new: x's own -/
theorem rts_new {t : TE} {m : EM} (h : RTN K W t m) (i : Nat) : RTS K W (tAsg t (gName i)) (sNew i m) := by
  intro w0 w Γ σ e0 ok f Dn p
  refine h w0.H w Γ σ ok f _ ?_
  have p' : PostS K w0 w ((m Γ w.st).bs Γ _) Dn W := p
  cases e : m Γ w.st with
  | no => rw [e] at p'; exact p'
  | err x st => rw [e] at p'; exact fun c dd w' ev k' s r => p' c dd w' σ (e0.trans ok ev) ev.ext k' s (f.evo ev) r
  | ok d st =>
    rw [e] at p'
    intro a o w' ev k' s ha ho hm hr r
    refine p' w' _ (e0.trans ok ev) ev.ext k' s ?_
    refine fr_own (f.evo ev) ho hm (e0.dom0 ok ha) hr r i fun j e' nj hj hs => ?_
    obtain ⟨b, u, h1, h2, _⟩ := f.ow j e' hj
    rw [hs] at h1; cases h1
    rw [ha] at h2; cases h2
theorem ps_new' (i : Nat) {x : Str} {e : Expr} {m : EM} {pos pos' : Pos} (nd : N.Nodup) (h : PN P wd K mg base k N sc W e m) (hi : N[i]? = some x := by rfl) (hx : Loc sc.s x := by first | exact Or.inl rfl | exact Or.inr rfl) (hf : sc.fn x = true ∨ sc.s.names.lookup x = some .local := by first | exact Or.inl rfl | exact Or.inr rfl)
    (hw : ∀ env, swappedStores [.Name x pos'] e env = pure none := by intro _; rfl) (hn : ∀ env, swapsWithSole [.Name x pos'] e pos.line env = pure false := by intro _; rfl) :
    PSt P wd K mg base k N sc W (.Assign [.Name x pos'] e pos) (sNew i m) := by
  obtain ⟨t, p, r⟩ := h
  refine ⟨tAsg t (gName i), fun X g => ps_asg (p X g) (pg_name (by rw [g.nn]; exact nd) (by rw [g.nn]; exact hi) (by rw [g.scp]; exact hx) ?_) (hn X.env) (hw X.env), rts_new r i⟩
  rw [g.fnc, g.scp]; exact hf
theorem pn_lst {es : List Expr} {ms : EM} {pos : Pos} (h : PAr P wd K mg base k N sc W es ms) : PN P wd K mg base k N sc W (.List es pos) (eLst ms) := by
  obtain ⟨t, p, r⟩ := h
  refine ⟨_, fun X g => pe_lst (p X g), ?_⟩
  intro H0 w Γ σ ok f Q q
  refine RTA.use (P := fun w r => PostN K w r Q (at_ W σ)) r ok f (fun _ _ e k p => p.shift e k) (fun _ _ p => p) (fun p => p) (fun d st hb => by cases d <;> first | rfl | exact absurd rfl (hb _)) q fun ds vs w1 e1 k1 f1 r1 p1 => ?_
  have p2 : PostN K w1 (if ds.length ≤ 16777216 then .ok (.lst ds) w1.st else .no) Q (at_ W σ) := p1
  by_cases hl : ds.length ≤ 16777216
  · rw [if_pos hl] at p2
    exact ⟨by rw [r1.1, sizeLine_eq]; exact hl, fun a ha => p2.al k1 ha ⟨vs, rfl, r1⟩⟩
  · rw [if_neg hl] at p2; exact p2.elim
/-- an own thing becomes shared (lists) -/
def frz (i : Nat) (Γ : DEnv) : DEnv := match Γ[i]? with
  | some (.ow (.lst xs)) => Γ.set i (.sh (.lst xs))
  | _ => Γ
theorem fr_frz {w0 w : Wd} {Γ : DEnv} {σ : L2.St} (e0 : Evo w0 w) (k : Ok K w) (f : Fr K w0.H w Γ σ) (i : Nat) : ∃ w' : Wd, w'.H = w.H ∧ w'.st = w.st ∧ Evo w0 w' ∧ Ext w w' ∧ Ok K w' ∧ Fr K w0.H w' (frz i Γ) σ := by
  unfold frz
  split
  · rename_i xs hi
    obtain ⟨a, o, h1, h2, h3, h4, h5, h6⟩ := f.ow i _ hi
    obtain ⟨vs, rfl, rl⟩ := h6
    have x : Ext w { w with M := upd w.M a (.lst vs) } := ⟨fun b u q => by show upd w.M a _ b = _; rw [upd_ne (ne_of_none q h3)]; exact q, fun _ _ => rfl, Nat.le_refl _⟩
    have hl := getElem?_lt hi
    refine ⟨{ w with M := upd w.M a (.lst vs) }, rfl, rfl, ⟨(e0.ext.trans x).mono, e0.rho, e0.le, fun b u q n => ?_, e0.newR, e0.keep⟩, x, ⟨fun b u q => ?_, fun l d q => ?_, k.inj⟩, ⟨?_, fun j d h => ?_, fun j d h => ?_, fun y z d e b ne g1 g2 g3 => ?_⟩⟩
    · have q' : upd w.M a (.lst vs) b = some u := q
      by_cases z : b = a
      · rw [z]; exact h4
      · rw [upd_ne z] at q'; exact e0.newM b u q' n
    · have q' : upd w.M a (.lst vs) b = some u := q
      by_cases z : b = a
      · rw [z, upd_same] at q'; cases q'; rw [z]; exact h2
      · rw [upd_ne z] at q'; exact k.ex b u q'
    · obtain ⟨u, g1, g2⟩ := k.sto l d q
      refine ⟨u, g1, g2.imp id fun ⟨g2, g3⟩ => ⟨?_, g3.ext x⟩⟩
      show upd w.M a (.lst vs) (w.ρ l) = _
      rw [upd_ne (h5 l (getElem?_lt q))]; exact g2
    · simp [f.len]
    · by_cases z : i = j
      · subst z
        rw [List.getElem?_set_self hl] at h; cases h
        have r' := rl.ext x
        exact ⟨_, h1, .lst (by show upd w.M a _ a = _; exact upd_same) r'.1 r'.2⟩
      · rw [List.getElem?_set_ne z] at h
        obtain ⟨v, g1, g2⟩ := f.sh j d h
        exact ⟨v, g1, g2.ext x⟩
    · by_cases z : i = j
      · subst z
        rw [List.getElem?_set_self hl] at h; cases h
      · rw [List.getElem?_set_ne z] at h
        obtain ⟨b, u, g1, g2, g3, g4, g5, g6⟩ := f.ow j d h
        have nb : b ≠ a := fun q => f.dj i j _ d a z hi h h1 (by rw [g1, q])
        refine ⟨b, u, g1, g2, ?_, g4, g5, g6.ext x⟩
        show upd w.M a _ b = _
        rw [upd_ne nb]; exact g3
    · have ny : i ≠ y := fun q => by subst q; rw [List.getElem?_set_self hl] at g1; cases g1
      have nz : i ≠ z := fun q => by subst q; rw [List.getElem?_set_self hl] at g2; cases g2
      rw [List.getElem?_set_ne ny] at g1
      rw [List.getElem?_set_ne nz] at g2
      exact f.dj y z d e b ne g1 g2 g3
  · exact ⟨w, rfl, rfl, e0, Ext.refl w, k, f⟩
def sFrz (i : Nat) (m : SM) : SM := fun Γ st => m (frz i Γ) st
/-- ahead of these statements x's list is shared -/
theorem ps_frz (i : Nat) {ss : List Stmt} {m : SM} (h : PSl P wd K mg base k N sc W ss m) : PSl P wd K mg base k N sc W ss (sFrz i m) := by
  obtain ⟨t, p, r⟩ := h
  refine ⟨t, p, ?_⟩
  intro w0 w Γ σ e0 ok f Dn q
  obtain ⟨w', h1, h2, h3, h4, h5, h6⟩ := fr_frz e0 ok f i
  rw [← h1]
  exact r w0 w' _ σ h3 h5 h6 Dn (by rw [h2]; exact q.shift h4)
/-- an own thing changes -/
theorem ow_put {w0 w : Wd} {Γ : DEnv} {σ : L2.St} (e0 : Evo w0 w) (k : Ok K w) (f : Fr K w0.H w Γ σ) {i : Nat} {d d' : D} (hi : Γ[i]? = some (.ow d)) {a : Addr} (ha : σ[i]? = some (some (.ref a))) {o' : HO} (r : RO K w o' d') :
    Evo w0 (w.al a o') ∧ Ext w (w.al a o') ∧ Ok K (w.al a o') ∧ Fr K w0.H (w.al a o') (Γ.set i (.ow d')) σ := by
  obtain ⟨a', o, h1, h2, h3, h4, h5, h6⟩ := f.ow i d hi
  rw [ha] at h1; cases h1
  have x : Ext w (w.al a o') := ext_same rfl rfl rfl
  have hl := getElem?_lt hi
  refine ⟨⟨e0.mono, e0.rho, e0.le, e0.newM, e0.newR, fun b u hb hm hr => ?_⟩, x, ok_al k o' h3 h5, ⟨by simp [f.len], fun j e h => ?_, fun j e h => ?_, fun y z d1 e1 b ne g1 g2 g3 => ?_⟩⟩
  · show upd w.H a o' b = _
    rw [upd_ne (ne_of_none hb h4)]; exact e0.keep b u hb hm hr
  · by_cases z : i = j
    · subst z; rw [List.getElem?_set_self hl] at h; cases h
    · rw [List.getElem?_set_ne z] at h
      obtain ⟨v, g1, g2⟩ := f.sh j e h
      exact ⟨v, g1, g2.ext x⟩
  · by_cases z : i = j
    · subst z; rw [List.getElem?_set_self hl] at h; cases h
      exact ⟨a, o', ha, upd_same, h3, h4, h5, r.ext x⟩
    · rw [List.getElem?_set_ne z] at h
      obtain ⟨b, u, g1, g2, g3, g4, g5, g6⟩ := f.ow j e h
      have nb : b ≠ a := fun q => f.dj i j _ e a z hi h ha (by rw [g1, q])
      refine ⟨b, u, g1, ?_, g3, g4, g5, g6.ext x⟩
      show upd w.H a _ b = _
      rw [upd_ne nb]; exact g2
  · have c : ∀ {j : Nat} {e : D}, (Γ.set i (.ow d'))[j]? = some (.ow e) → ∃ e', Γ[j]? = some (.ow e') := fun {j e} h => by
      by_cases z : i = j
      · subst z; exact ⟨d, hi⟩
      · rw [List.getElem?_set_ne z] at h; exact ⟨e, h⟩
    obtain ⟨d2, c1⟩ := c g1
    obtain ⟨e2, c2⟩ := c g2
    exact f.dj y z d2 e2 b ne c1 c2 g3
/-- how a built-in's method is called, whatever the frame -/
structure BmS (o : Expr) (name : Str) (e : Expr) (es : List Expr) (apos cpos : Pos) : Prop where
  base : ∀ env, attributeBase o name env (eval o env) = eval o env := by intro _; rfl
  few : ∀ env, ((backTo cpos (starEach (e :: es) env)).all (fun x => !x.1) && (backToKw cpos (keywordEach [] env)).all (fun x => x.1.isSome)
      && decide ((e :: es).length + ([] : List Keyword).length + (if ([] : List Keyword).isEmpty then 0 else 1) < 30)) = true := by intro _; rfl
  line : (apos.endLine == cpos.line) = true := by rfl
  star : ∀ env, starEach (e :: es) env = (false, eval e env) :: starEach es env := by intro _; rfl
  plain : ∀ env, (backTo cpos (starEach es env)).any (·.1) = false := by intro _; rfl
/-- x.append(e), x its own list -/
def sApp (i : Nat) (m : EM) : SM := fun Γ st => match Γ[i]? with
  | some (.ow (.lst xs)) => (m Γ st).bs Γ fun d s => if xs.length < 16777216 then .nx (Γ.set i (.ow (.lst (xs ++ [d])))) s else .no
  | _ => .no
theorem ps_app' (i : Nat) {x : Str} {e : Expr} {m : EM} {pos xpos apos cpos : Pos} (h : PR P wd K mg base k N sc W e m) (b : BmS (.Name x xpos) "append" e [] apos cpos) (hN : N[i]? = some x := by rfl) (hv : Vis sc.s x := by first | exact Or.inl rfl | exact Or.inr (Or.inl rfl) | exact Or.inr (Or.inr rfl)) (hd : (x == ("__debug__" : Str)) = false := by decide)
    (hcd : (x == ("__classdict__" : Str)) = false := by decide) (hsw : ∀ env, swapsWith (.Call (.Attribute (.Name x xpos) "append" apos) [e] [] cpos) none pos.line env = pure false := by intro _; rfl) :
    PSt P wd K mg base k N sc W (.Expr (.Call (.Attribute (.Name x xpos) "append" apos) [e] [] cpos) pos) (sApp i m) := by
  obtain ⟨t, p, r⟩ := h
  refine ⟨tDrop (tBM K "list" rAppend (tVar i) (tCons t tNil)), fun X g => ps_expr (by
    have := pe_bm (X := X) PySem.F.plainAttrs_list PySem.F.slot_list_append PySem.F.type_list_append mt_append (pe_var (pos := xpos) (by rw [g.nn]; exact hN) (by rw [g.scp]; exact hv) hd hcd) (pa_cons (p X g) pa_nil (b.star X.env)) (cpos := cpos) (apos := apos) (b.base X.env) (b.few X.env) b.line (b.star X.env) (b.plain X.env)
    rw [g.kk] at this; exact this) (hsw X.env), ?_⟩
  intro w0 w Γ σ e0 ok f Dn q
  unfold sApp at q
  split at q
  · rename_i xs hi
    obtain ⟨a, o, h1, h2, h3, h4, h5, h6⟩ := f.ow i _ hi
    obtain ⟨vs, rfl, rl⟩ := h6
    refine ⟨_, h1, .inl ⟨rfl, vs, SqL.of h2⟩, ?_⟩
    refine r.useS e0 ok f q fun d v w1 e1 k1 f1 r1 x1 p1 => ?_
    obtain ⟨a', o', g1, g2, _, _, _, g6⟩ := f1.ow i _ hi
    rw [h1] at g1; cases g1
    obtain ⟨us, rfl, ru⟩ := g6
    by_cases hl : xs.length < 16777216
    · rw [if_pos hl] at p1
      refine ⟨a, us, v, rfl, rfl, g2, by rw [ru.1, sizeLine_eq]; exact hl, ?_⟩
      obtain ⟨c1, c2, c3, c4⟩ := ow_put e1 k1 f1 hi h1 (o' := .lst (us ++ [v])) (d' := .lst (xs ++ [d])) ⟨_, rfl, ru.append (.cons r1 .nil)⟩
      exact p1 _ σ c1 c2 c3 rfl c4
    · rw [if_neg hl] at p1; exact p1.elim
  · exact q.elim
/-- l.append(e), l a list of the store -/
def sAppR (mo me : EM) : SM := fun Γ st => (mo Γ st).bs Γ fun o s1 => match o with
  | .ref l => match s1[l]? with
    | some (.lst _) => (me Γ s1).bs Γ fun d s2 => match s2[l]? with
      | some (.lst xs) => if xs.length < 16777216 then .nx Γ (s2.set l (.lst (xs ++ [d]))) else .no
      | _ => .no
    | _ => .no
  | _ => .no
theorem ps_appR {o e : Expr} {mo me : EM} {pos apos cpos : Pos} (ho : PR P wd K mg base k N sc W o mo) (h : PR P wd K mg base k N sc W e me) (b : BmS o "append" e [] apos cpos) (hsw : ∀ env, swapsWith (.Call (.Attribute o "append" apos) [e] [] cpos) none pos.line env = pure false := by intro _; rfl) :
    PSt P wd K mg base k N sc W (.Expr (.Call (.Attribute o "append" apos) [e] [] cpos) pos) (sAppR mo me) := by
  obtain ⟨to, po, ro⟩ := ho
  obtain ⟨t, p, r⟩ := h
  refine ⟨tDrop (tBM K "list" rAppend to (tCons t tNil)), fun X g => ps_expr (by
    have := pe_bm (X := X) PySem.F.plainAttrs_list PySem.F.slot_list_append PySem.F.type_list_append mt_append (po X g) (pa_cons (p X g) pa_nil (b.star X.env)) (cpos := cpos) (apos := apos) (b.base X.env) (b.few X.env) b.line (b.star X.env) (b.plain X.env)
    rw [g.kk] at this; exact this) (hsw X.env), ?_⟩
  intro w0 w Γ σ e0 ok f Dn q
  refine ro.useS e0 ok f q fun o u w1 e1 k1 f1 r1 x1 p1 => ?_
  cases r1 with
  | @ref l hl =>
    dsimp only at p1
    split at p1
    · rename_i ys hy
      obtain ⟨ob, g1, g2, g3⟩ := k1.live hy (by simp)
      obtain ⟨vs, rfl, rl⟩ := g3
      refine ⟨.inl ⟨rfl, vs, SqL.of g1⟩, ?_⟩
      refine r.useS e1 k1 f1 p1 fun d v w2 e2 k2 f2 r2 x2 p2 => ?_
      split at p2
      · rename_i xs hx
        obtain ⟨ob, h1, h2, h3⟩ := k2.live hx (by simp)
        obtain ⟨us, rfl, ru⟩ := h3
        by_cases hq : xs.length < 16777216
        · rw [if_pos hq] at p2
          obtain ⟨ev, kv⟩ := put_ok (o := .lst (us ++ [v])) (d := .lst (xs ++ [d])) k2 (getElem?_lt hx) h2 ⟨_, rfl, ru.append (.cons r2 .nil)⟩
          rw [← x2.rho l hl]
          exact ⟨w2.ρ l, us, v, rfl, rfl, h1, by rw [ru.1, sizeLine_eq]; exact hq, p2 (w2.put l _ _) σ (e2.trans k2 ev) ev.ext kv rfl (f2.evo ev)⟩
        · rw [if_neg hq] at p2; exact p2.elim
      · exact p2.elim
    · exact p1.elim
  | _ => exact p1.elim

/-! ### texts -/
def strsOf : List D → Option (List Str)
  | [] => some []
  | .str x :: r => (strsOf r).map (x :: ·)
  | _ => none
theorem strsOf_rep {w : Wd} : ∀ {ds : List D} {ys : List Str} {vs : List V}, strsOf ds = some ys → RepL K w vs ds → vs = ys.map V.str
  | [], ys, vs, h, r => by cases h; rw [r.inv0]; rfl
  | d :: ds, ys, vs, h, r => by
    obtain ⟨v, us, rfl, r1, r2⟩ := r.inv
    cases d with
    | str x =>
      cases q : strsOf ds with
      | none => simp [strsOf, q] at h
      | some zs =>
        simp only [strsOf, q, Option.map_some, Option.some.injEq] at h
        subst h
        cases r1
        rw [strsOf_rep q r2]; rfl
    | _ => simp [strsOf] at h
/-- sep.join(xs) -/
def oJoin : D → D → Store → ER
  | .str a, .lst ds, st => match strsOf ds with
    | some ys => if (ys.map (·.length)).sum + ys.length * a.length ≤ 16777216 then .ok (.str (Txt.join a ys)) st else .no
    | none => .no
  | .str a, .tup ds, st => match strsOf ds with
    | some ys => if (ys.map (·.length)).sum + ys.length * a.length ≤ 16777216 then .ok (.str (Txt.join a ys)) st else .no
    | none => .no
  | _, _, _ => .no
end
end DL
namespace DL
open PySem L2
section
variable {P : Program} {wd : World} {K : PySem.W.Frag} {mg : Str → Option Value} {base : Heap} {k : Nat} {N : List Str} {sc : SC} {W : WX}
/-- o.m(e), o a text -/
def eM1 (f : D → D → Store → ER) (mo me : EM) : EM := fun Γ st => (mo Γ st).bind fun o s1 => match o with
  | .str x => (me Γ s1).bind fun e s2 => f (.str x) (deref s2 e) s2
  | _ => .no
theorem rt_m1 {r : V → List V → Hp → VK → Prop} {f : D → D → Store → ER} {to te : TE} {mo me : EM} (h : OpD K (fun x y H Q => r x [y] H Q) f) (ro : RT K W to mo) (re : RB K W te me) : RT K W (tM1 r to te) (eM1 f mo me) := by
  intro H0 w Γ σ ok f0 Q p
  refine RT.use (P := fun w r => PostE K w r Q (at_ W σ)) ro ok f0 (fun _ _ e k p => p.shift e k) (fun _ _ p => p) (fun p => p) p fun dx x w1 e1 k1 f1 rx p1 => ?_
  cases rx with
  | @str z =>
    refine ⟨⟨z, rfl⟩, ?_⟩
    refine RB.use (P := fun w r => PostE K w r Q (at_ W σ)) re k1 f1 (fun _ _ e k p => p.shift e k) (fun _ _ p => p) (fun p => p) p1 fun dy y w2 e2 k2 f2 vy p2 => ?_
    exact h w2 (.str z) y (.str z) _ Q _ k2 rfl (vy.vw k2 f2) p2
  | _ => exact p1.elim
theorem pr_m1 {r : V → List V → Hp → VK → Prop} {f : D → D → Store → ER} {id : String} {name : Str} {o e : Expr} {mo me : EM} {apos pos : Pos} (slot : Slot "str" name id) (ty : typeOf (.builtin id) = pure (.type "method_descriptor")) (rule : ∀ X, G P wd K mg base k N sc W X → MtR X id r) (h : OpD K (fun x y H Q => r x [y] H Q) f)
    (ho : PR P wd K mg base k N sc W o mo) (he : PB P wd K mg base k N sc W e me) (hs : ∀ env, starEach [e] env = [(false, eval e env)] := by intro _; rfl) (hbase : ∀ env, attributeBase o name env (eval o env) = eval o env := by intro _; rfl) (hline : (apos.endLine == pos.line) = true := by rfl) :
    PR P wd K mg base k N sc W (.Call (.Attribute o name apos) [e] [] pos) (eM1 f mo me) := by
  obtain ⟨to, po, ro⟩ := ho
  obtain ⟨te, pe, re⟩ := he
  exact ⟨_, fun X g => pe_m1 slot ty (rule X g) (po X g) (pe X g) (hs X.env) (hbase X.env) hline, rt_m1 h ro re⟩
theorem od_join : OpD K (fun x y H Q => ∃ a p, ∃ ys : List Str, x = .str a ∧ [y] = [V.ref p] ∧ (SqL K H p (ys.map V.str) ∨ SqT K H p (ys.map V.str)) ∧ (ys.map (·.length)).sum + ys.length * a.length ≤ 16777216 ∧ Q (.str (Txt.join a ys)) H) oJoin := fun w x y dx dy Q E k vx vy p => by
  cases dx <;> cases dy <;> try exact p.elim
  case str.lst a ds =>
    obtain rfl := vx
    obtain ⟨b, vs, rfl, h, r⟩ := vy
    have p' : PostE K w (match strsOf ds with | some ys => if (ys.map (·.length)).sum + ys.length * a.length ≤ 16777216 then .ok (.str (Txt.join a ys)) w.st else .no | none => .no) Q E := p
    cases q : strsOf ds with
    | none => rw [q] at p'; exact p'.elim
    | some ys =>
      rw [q] at p'
      have e := strsOf_rep q r
      subst e
      obtain ⟨hz, p'⟩ := PostE.ite p'
      exact ⟨a, b, ys, rfl, rfl, .inl (SqL.of h), hz, p'.now k .str⟩
  case str.tup a ds =>
    obtain rfl := vx
    obtain ⟨b, vs, rfl, h, r⟩ := vy
    have p' : PostE K w (match strsOf ds with | some ys => if (ys.map (·.length)).sum + ys.length * a.length ≤ 16777216 then .ok (.str (Txt.join a ys)) w.st else .no | none => .no) Q E := p
    cases q : strsOf ds with
    | none => rw [q] at p'; exact p'.elim
    | some ys =>
      rw [q] at p'
      have e := strsOf_rep q r
      subst e
      obtain ⟨hz, p'⟩ := PostE.ite p'
      exact ⟨a, b, ys, rfl, rfl, .inr h, hz, p'.now k .str⟩
theorem pr_join {o e : Expr} {mo me : EM} {apos pos : Pos} (ho : PR P wd K mg base k N sc W o mo) (he : PB P wd K mg base k N sc W e me) (hs : ∀ env, starEach [e] env = [(false, eval e env)] := by intro _; rfl) (hbase : ∀ env, attributeBase o "join" env (eval o env) = eval o env := by intro _; rfl) (hline : (apos.endLine == pos.line) = true := by rfl) :
    PR P wd K mg base k N sc W (.Call (.Attribute o "join" apos) [e] [] pos) (eM1 oJoin mo me) :=
  pr_m1 PySem.F.slot_str_join PySem.F.type_str_join (fun X g => by have := mt_join (X := X); rw [g.kk] at this; exact this) od_join ho he hs hbase hline

/-! ### comparisons by name -/
variable {a b : Expr} {ma mb : EM} {pos : Pos}
theorem pr_lt (ha : PB P wd K mg base k N sc W a ma) (hb : PB P wd K mg base k N sc W b mb) : PR P wd K mg base k N sc W (.Compare a [.Lt] [b] pos) (eOp oLt ma mb) := pr_cmp (fun X g => OpR.or' op_lt op_lt_str) od_lt ha hb
theorem pr_le (ha : PB P wd K mg base k N sc W a ma) (hb : PB P wd K mg base k N sc W b mb) : PR P wd K mg base k N sc W (.Compare a [.LtE] [b] pos) (eOp oLe ma mb) := pr_cmp (fun X g => OpR.or' op_le op_le_str) od_le ha hb
theorem pr_gt (ha : PB P wd K mg base k N sc W a ma) (hb : PB P wd K mg base k N sc W b mb) : PR P wd K mg base k N sc W (.Compare a [.Gt] [b] pos) (eOp oGt ma mb) := pr_cmp (fun X g => OpR.or' op_gt op_gt_str) od_gt ha hb
theorem pr_ge (ha : PB P wd K mg base k N sc W a ma) (hb : PB P wd K mg base k N sc W b mb) : PR P wd K mg base k N sc W (.Compare a [.GtE] [b] pos) (eOp oGe ma mb) := pr_cmp (fun X g => OpR.or' op_ge op_ge_str) od_ge ha hb
theorem pr_eq (ha : PB P wd K mg base k N sc W a ma) (hb : PB P wd K mg base k N sc W b mb) : PR P wd K mg base k N sc W (.Compare a [.Eq] [b] pos) (eOp oEq ma mb) := pr_cmp (fun X g => OpR.or' op_eq (by rw [← g.kk]; exact op_eqD g.room.units)) od_eq ha hb
theorem pr_ne (ha : PB P wd K mg base k N sc W a ma) (hb : PB P wd K mg base k N sc W b mb) : PR P wd K mg base k N sc W (.Compare a [.NotEq] [b] pos) (eOp oNe ma mb) := pr_cmp (fun X g => OpR.or' op_ne (by rw [← g.kk]; exact op_neD g.room.units)) od_ne ha hb
theorem pr_isN (ha : PB P wd K mg base k N sc W a ma) (hb : PB P wd K mg base k N sc W b mb) : PR P wd K mg base k N sc W (.Compare a [.Is] [b] pos) (eOp oIsN ma mb) := pr_cmp (fun X g => op_isN) od_isN ha hb
theorem pr_notN (ha : PB P wd K mg base k N sc W a ma) (hb : PB P wd K mg base k N sc W b mb) : PR P wd K mg base k N sc W (.Compare a [.IsNot] [b] pos) (eOp oNotN ma mb) := pr_cmp (fun X g => op_notN) od_notN ha hb
theorem pt_lt (ha : PB P wd K mg base k N sc W a ma) (hb : PB P wd K mg base k N sc W b mb) : PTt P wd K mg base k N sc W (.Compare a [.Lt] [b] pos) (eOp oLt ma mb) := pt_cmp' (fun X g => OpR.or' op_lt op_lt_str) od_lt ha hb
theorem pt_le (ha : PB P wd K mg base k N sc W a ma) (hb : PB P wd K mg base k N sc W b mb) : PTt P wd K mg base k N sc W (.Compare a [.LtE] [b] pos) (eOp oLe ma mb) := pt_cmp' (fun X g => OpR.or' op_le op_le_str) od_le ha hb
theorem pt_gt (ha : PB P wd K mg base k N sc W a ma) (hb : PB P wd K mg base k N sc W b mb) : PTt P wd K mg base k N sc W (.Compare a [.Gt] [b] pos) (eOp oGt ma mb) := pt_cmp' (fun X g => OpR.or' op_gt op_gt_str) od_gt ha hb
theorem pt_ge (ha : PB P wd K mg base k N sc W a ma) (hb : PB P wd K mg base k N sc W b mb) : PTt P wd K mg base k N sc W (.Compare a [.GtE] [b] pos) (eOp oGe ma mb) := pt_cmp' (fun X g => OpR.or' op_ge op_ge_str) od_ge ha hb
theorem pt_eq (ha : PB P wd K mg base k N sc W a ma) (hb : PB P wd K mg base k N sc W b mb) : PTt P wd K mg base k N sc W (.Compare a [.Eq] [b] pos) (eOp oEq ma mb) := pt_cmp' (fun X g => OpR.or' op_eq (by rw [← g.kk]; exact op_eqD g.room.units)) od_eq ha hb
theorem pt_ne (ha : PB P wd K mg base k N sc W a ma) (hb : PB P wd K mg base k N sc W b mb) : PTt P wd K mg base k N sc W (.Compare a [.NotEq] [b] pos) (eOp oNe ma mb) := pt_cmp' (fun X g => OpR.or' op_ne (by rw [← g.kk]; exact op_neD g.room.units)) od_ne ha hb
theorem pt_isN (ha : PB P wd K mg base k N sc W a ma) (hb : PB P wd K mg base k N sc W b mb) : PTt P wd K mg base k N sc W (.Compare a [.Is] [b] pos) (eOp oIsN ma mb) := pt_cmp' (fun X g => op_isN) od_isN ha hb
theorem pt_notN (ha : PB P wd K mg base k N sc W a ma) (hb : PB P wd K mg base k N sc W b mb) : PTt P wd K mg base k N sc W (.Compare a [.IsNot] [b] pos) (eOp oNotN ma mb) := pt_cmp' (fun X g => op_notN) od_notN ha hb
end
/-- where a def of the text stands -/
def HF (K : PySem.W.Frag) (mg : Str → Option Value) (x : Str) (st : Stmt) : Prop := ∃ (f : Addr) (fd : FuncData), Fun K x x st f fd ∧ mg x = some (.ref f)
section
variable {P : Program} {wd : World} {K : PySem.W.Frag} {mg : Str → Option Value} {base : Heap} {k : Nat} {N : List Str}
theorem fn_ok {x : Str} {st : Stmt} {ps : List Str} {m : SM} (h : HF K mg x st) (S : FnScope N ps (defScope st)) (hb : ∀ (kV doc pm : Value) (an : Option Addr) (cdv ct : Value) (us : List Value), us.length = ps.length → bindArgs (PySem.W.fnOf x x (defArgs st) (defBody st) (defScope st) .none kV doc pm an cdv ct) ⟨us, []⟩ = pure (ps.zip us))
    (b : ∀ W : WX, PSl P wd K mg base k N ⟨defScope st, fun _ => true⟩ W (defBody st) m) : Fn P wd K mg base (k + 1) x (run N ps m) := by
  obtain ⟨f, fd, F, hm⟩ := h
  exact ⟨f, fd, ps, def_ok F S b, hm, F.kp, F.binds hb⟩
theorem Fn.as {x : Str} {F F' : DF} (h : Fn P wd K mg base k x F) (e : ∀ ds st, F' ds st ≠ .no → F ds st = F' ds st) : Fn P wd K mg base k x F' :=
  let ⟨f, fd, ps, a, b, c, d⟩ := h.ex; ⟨f, fd, ps, FnG.as a e, b, c, d⟩
end
end DL
namespace DL
open PySem L2
section
variable {P : Program} {wd : World} {K : PySem.W.Frag} {mg : Str → Option Value} {base : Heap} {k : Nat} {N : List Str} {sc : SC} {W : WX}
/-- a new thing goes into the store -/
def Wd.push (w : Wd) (a : Addr) (d : D) : Wd := { w with st := w.st ++ [d], ρ := fun l => if l = w.st.length then a else w.ρ l }
theorem push_ok {w0 w : Wd} {a : Addr} {o : HO} {d : D} (e : Evo w0 w) (k : Ok K w) (h0 : w0.H a = none) (ha : w.H a = some o) (hm : w.M a = none) (hr : ∀ l, l < w.st.length → w.ρ l ≠ a) (r : RO K w o d) :
    Evo w0 (w.push a d) ∧ Ext w (w.push a d) ∧ Ok K (w.push a d) := by
  have hp : ∀ l, l < w.st.length → (w.push a d).ρ l = w.ρ l := fun l hl => by show (if l = w.st.length then a else w.ρ l) = _; rw [if_neg (Nat.ne_of_lt hl)]
  have hq : (w.push a d).ρ w.st.length = a := by show (if w.st.length = w.st.length then a else _) = _; rw [if_pos rfl]
  have hn : (w.push a d).st.length = w.st.length + 1 := by show (w.st ++ [d]).length = _; simp
  have x : Ext w (w.push a d) := ⟨fun _ _ h => h, hp, by rw [hn]; exact Nat.le_succ _⟩
  refine ⟨⟨e.mono, fun l hl => (hp l (Nat.lt_of_lt_of_le hl e.le)).trans (e.rho l hl), Nat.le_trans e.le x.le, e.newM, fun l h1 h2 => ?_, e.keep⟩, x, ⟨k.ex, fun l c h => ?_, fun l m hl hm' q => ?_⟩⟩
  · rw [hn] at h2
    by_cases z : l < w.st.length
    · rw [hp l z]; exact e.newR l h1 z
    · have : l = w.st.length := by omega
      rw [this, hq]; exact h0
  · have h' : (w.st ++ [d])[l]? = some c := h
    by_cases z : l < w.st.length
    · rw [List.getElem?_append_left z] at h'
      obtain ⟨u, g1, g2⟩ := k.sto l c h'
      rw [hp l z]
      exact ⟨u, g1, g2.imp id fun ⟨g2, g3⟩ => ⟨g2, g3.ext x⟩⟩
    · have hl := getElem?_lt h'
      simp at hl
      have : l = w.st.length := by omega
      subst this
      simp at h'
      subst h'
      rw [hq]
      exact ⟨o, ha, .inr ⟨hm, r.ext x⟩⟩
  · rw [hn] at hl hm'
    by_cases z : l < w.st.length
    · by_cases y : m < w.st.length
      · rw [hp l z, hp m y] at q; exact k.inj l m z y q
      · have : m = w.st.length := by omega
        rw [hp l z, this, hq] at q; exact absurd q (hr l z)
    · have e1 : l = w.st.length := by omega
      by_cases y : m < w.st.length
      · rw [hp m y, e1, hq] at q; exact absurd q.symm (hr m y)
      · omega
/-- return something new, for the store -/
def sRetSt (m : EM) : SM := fun Γ st => (m Γ st).bs Γ fun d s => .ret (.ref s.length) (s ++ [d])
theorem ps_retSt {e : Expr} {m : EM} {pos : Pos} (h : PN P wd K mg base k N sc W e m) : PSt P wd K mg base k N sc W (.Return (some e) pos) (sRetSt m) := by
  obtain ⟨t, p, r⟩ := h
  refine ⟨_, fun X g => ps_ret (p X g), ?_⟩
  intro w0 w Γ σ e0 ok f Dn q
  refine r w0.H w Γ σ ok f _ ?_
  have p' : PostS K w0 w ((m Γ w.st).bs Γ _) Dn W := q
  cases e : m Γ w.st with
  | no => rw [e] at p'; exact p'
  | err x st => rw [e] at p'; exact fun c dd w' ev k' s r => p' c dd w' σ (e0.trans ok ev) ev.ext k' s (f.evo ev) r
  | ok d st =>
    rw [e] at p'
    intro a o w' ev k' s ha ho hm hr r
    subst s
    obtain ⟨e1, x1, k1⟩ := push_ok (e0.trans ok ev) k' (e0.dom0 ok ha) ho hm hr r
    have hq : (w'.push a d).ρ w'.st.length = a := by show (if w'.st.length = w'.st.length then a else _) = _; rw [if_pos rfl]
    have rr : Rep K (w'.push a d) (.ref ((w'.push a d).ρ w'.st.length)) (.ref w'.st.length) := .ref (by show _ < (w'.st ++ [d]).length; simp)
    rw [hq] at rr
    exact p' _ (w'.push a d) e1 k1 rfl rr
end
end DL
namespace DL
open PySem L2
/-! ### the words, applied: by simp (disch := omega) -/
@[simp] theorem getE_0 {α : Type} (a : α) (l : List α) : (a :: l)[0]? = some a := rfl
@[simp] theorem getE_s {α : Type} (a : α) (l : List α) (n : Nat) : (a :: l)[n+1]? = l[n]? := rfl
@[simp] theorem getE_nil {α : Type} (n : Nat) : ([] : List α)[n]? = none := rfl
section
variable {Γ : DEnv} {st : Store} {ma mb mc mi me mo ml mh : EM} {a b : SM} {i j : Nat} {d : D}
@[simp] theorem eVar_ap : eVar i Γ st = (match Γ[i]? with | some (.sh d) => .ok d st | _ => .no) := rfl
@[simp] theorem eVarB_ap : eVarB i Γ st = (match Γ[i]? with | some (.sh d) => .ok d st | some (.ow d) => .ok d st | _ => .no) := rfl
@[simp] theorem eC_ap : eC d Γ st = .ok d st := rfl
@[simp] theorem eOp_ap {f : D → D → Store → ER} : eOp f ma mb Γ st = (ma Γ st).bind fun x s1 => (mb Γ s1).bind fun y s2 => f (deref s2 x) (deref s2 y) s2 := rfl
@[simp] theorem eAnd_ap : eAnd ma mb Γ st = (ma Γ st).bind fun d s => match d with | .bl true => mb Γ s | .bl false => .ok (.bl false) s | _ => .no := rfl
@[simp] theorem eOr_ap : eOr ma mb Γ st = (ma Γ st).bind fun d s => match d with | .bl true => .ok (.bl true) s | .bl false => mb Γ s | _ => .no := rfl
@[simp] theorem eNot_ap : eNot ma Γ st = (ma Γ st).bind fun d s => match d with | .bl b => .ok (.bl !b) s | _ => .no := rfl
@[simp] theorem eIf_ap : eIf mc ma mb Γ st = (mc Γ st).bind fun d s => match d with | .bl true => ma Γ s | .bl false => mb Γ s | _ => .no := rfl
@[simp] theorem eNil_ap : eNil Γ st = .ok (.tup []) st := rfl
@[simp] theorem eCons_ap : eCons ma mb Γ st = (ma Γ st).bind fun d s => (mb Γ s).bind fun r s2 => match r with | .tup ds => .ok (.tup (d :: ds)) s2 | _ => .no := rfl
@[simp] theorem eTup_ap : eTup ma Γ st = (ma Γ st).bind fun d s => match d with | .tup ds => if ds.length ≤ 16777216 then .ok (.tup ds) s else .no | _ => .no := rfl
@[simp] theorem eLst_ap : eLst ma Γ st = (ma Γ st).bind fun d s => match d with | .tup ds => if ds.length ≤ 16777216 then .ok (.lst ds) s else .no | _ => .no := rfl
@[simp] theorem eCall_ap {F : DF} : eCall F ma Γ st = (ma Γ st).bind fun d s => match d with | .tup ds => F ds s | _ => .no := rfl
@[simp] theorem eB_ap {f : List D → Store → ER} : eB f ma Γ st = (ma Γ st).bind fun d s => match d with | .tup ds => f (ds.map (deref s)) s | _ => .no := rfl
@[simp] theorem eM1_ap {f : D → D → Store → ER} : eM1 f mo me Γ st = (mo Γ st).bind fun o s1 => match o with | .str x => (me Γ s1).bind fun e s2 => f (.str x) (deref s2 e) s2 | _ => .no := rfl
@[simp] theorem eInt_ap : eInt ma Γ st = (ma Γ st).bind fun d s => match d with | .int i => .ok (.int i) s | _ => .no := rfl
@[simp] theorem eSl_ap : eSl ma ml mh Γ st = (ma Γ st).bind fun x s1 => (ml Γ s1).bind fun l s2 => match part l with
  | none => .no
  | some lo => (mh Γ s2).bind fun h s3 => match part h with
    | none => .no
    | some hi => oSl lo hi (deref s3 x) s3 := rfl
@[simp] theorem part_non : part .non = some none := rfl
@[simp] theorem part_int {k : Int} : part (.int k) = some (some k) := rfl
@[simp] theorem eIter_ap : eIter ma Γ st = (ma Γ st).bind fun d s => match d with
  | .lst xs => .ok (.tup xs) s
  | .tup xs => .ok (.tup xs) s
  | .dct kvs => .ok (.tup (kvs.map fun p => kD p.1)) s
  | _ => .no := rfl
@[simp] theorem eRng1_ap : eRng1 ma Γ st = (ma Γ st).bind fun d s => match d with
  | .tup [.int j] => if -4611686018427387904 ≤ j ∧ j < 4611686018427387904 then .ok (.tup (rng 0 1 j.toNat)) s else .no
  | _ => .no := rfl
@[simp] theorem eRng2_ap : eRng2 ma Γ st = (ma Γ st).bind fun d s => match d with
  | .tup [.int i, .int j] => if -4611686018427387904 ≤ i ∧ i < 4611686018427387904 ∧ -4611686018427387904 ≤ j ∧ j < 4611686018427387904 then .ok (.tup (rng i 1 (j - i).toNat)) s else .no
  | _ => .no := rfl
@[simp] theorem eLc_ap {vs : List Nat} {g : GM} {mt : EM} : eLc vs mi g mt me Γ st = (mi Γ st).bind fun d s => match d with | .tup ds => lcL g mt me ds (wipeE Γ vs) s [] | _ => .no := rfl
@[simp] theorem eYes_ap : eYes Γ st = .ok (.bl true) st := rfl
@[simp] theorem sSkip_ap : sSkip Γ st = .nx Γ st := rfl
@[simp] theorem sSeq_ap : sSeq a b Γ st = (a Γ st).bind b := rfl
@[simp] theorem sDrop_ap : sDrop ma Γ st = (ma Γ st).bs Γ fun _ s => .nx Γ s := rfl
@[simp] theorem sRet_ap : sRet ma Γ st = (ma Γ st).bs Γ fun d s => .ret d s := rfl
@[simp] theorem sRetN_ap : sRetN Γ st = .ret .non st := rfl
@[simp] theorem sRetSt_ap : sRetSt ma Γ st = (ma Γ st).bs Γ fun d s => .ret (.ref s.length) (s ++ [d]) := rfl
@[simp] theorem sIf_ap : sIf mc a b Γ st = (mc Γ st).bs Γ fun d s => match d with | .bl true => a Γ s | .bl false => b Γ s | _ => .no := rfl
@[simp] theorem sAsg_ap : sAsg i ma Γ st = (ma Γ st).bs Γ fun d s => .nx (Γ.set i (.sh d)) s := rfl
@[simp] theorem sNew_ap : sNew i ma Γ st = (ma Γ st).bs Γ fun d s => .nx (Γ.set i (.ow d)) s := rfl
@[simp] theorem sBreak_ap : sBreak Γ st = .bk Γ st := rfl
@[simp] theorem sCont_ap : sCont Γ st = .ct Γ st := rfl
@[simp] theorem sFrz_ap : sFrz i a Γ st = a (frz i Γ) st := rfl
@[simp] theorem sFor_ap {g : GM} : sFor mi g b Γ st = (mi Γ st).bs Γ fun d s => match d with | .tup ds => forL g b ds Γ s | _ => .no := rfl
@[simp] theorem sSub_ap : sSub mo mi me Γ st = (me Γ st).bs Γ fun x s1 => (mo Γ s1).bs Γ fun o s2 => (mi Γ s2).bs Γ fun i s3 => match o with
  | .ref l => match s3[l]? with
    | some d => match setAt d i x with
      | some d' => .nx Γ (s3.set l d')
      | none => .no
    | none => .no
  | _ => .no := rfl
@[simp] theorem sApp_ap : sApp i ma Γ st = (match Γ[i]? with
  | some (.ow (.lst xs)) => (ma Γ st).bs Γ fun d s => if xs.length < 16777216 then .nx (Γ.set i (.ow (.lst (xs ++ [d])))) s else .no
  | _ => .no) := rfl
@[simp] theorem sAppR_ap : sAppR mo me Γ st = (mo Γ st).bs Γ fun o s1 => match o with
  | .ref l => match s1[l]? with
    | some (.lst _) => (me Γ s1).bs Γ fun d s2 => match s2[l]? with
      | some (.lst xs) => if xs.length < 16777216 then .nx Γ (s2.set l (.lst (xs ++ [d]))) else .no
      | _ => .no
    | _ => .no
  | _ => .no := rfl
@[simp] theorem fin_nx : fin (.nx Γ st) = .ok .non st := rfl
@[simp] theorem fin_ret : fin (.ret d st) = .ok d st := rfl
@[simp] theorem fin_err {x : Xn} : fin (.err x Γ st) = .err x st := rfl
@[simp] theorem gN_ap {i : Nat} : gN i d Γ = some (Γ.set i (.sh d)) := rfl
@[simp] theorem frz_own {xs : List D} (h : Γ[i]? = some (.ow (.lst xs))) : frz i Γ = Γ.set i (.sh (.lst xs)) := by unfold frz; rw [h]
@[simp] theorem deref_ref {l : Nat} : deref st (.ref l) = st[l]?.getD .non := rfl
@[simp] theorem deref_int {k : Int} : deref st (.int k) = .int k := rfl
@[simp] theorem deref_bl {k : Bool} : deref st (.bl k) = .bl k := rfl
@[simp] theorem deref_str {k : Str} : deref st (.str k) = .str k := rfl
@[simp] theorem deref_non : deref st .non = .non := rfl
@[simp] theorem deref_lst {k : List D} : deref st (.lst k) = .lst k := rfl
@[simp] theorem deref_tup {k : List D} : deref st (.tup k) = .tup k := rfl
@[simp] theorem deref_dct {k : List (Key × D)} : deref st (.dct k) = .dct k := rfl
@[simp] theorem deref_ins {C : String} {k : List (Str × D)} : deref st (.ins C k) = .ins C k := rfl
@[simp] theorem deref_scr {k : List Int} : deref st (.scr k) = .scr k := rfl
@[simp] theorem deref_cls {k : String} : deref st (.cls k) = .cls k := rfl
@[simp] theorem deref_opq : deref st .opq = .opq := rfl
@[simp] theorem deref_ty {k : String} : deref st (.ty k) = .ty k := rfl
@[simp] theorem oAdd_i {x y : Int} : oAdd (.int x) (.int y) st = .ok (.int (x + y)) st := rfl
@[simp] theorem oAdd_s {x y : Str} (h : x.length + y.length ≤ 16777216) : oAdd (.str x) (.str y) st = .ok (.str (x ++ y)) st := if_pos h
@[simp] theorem oAdd_l {x y : List D} (h : x.length + y.length ≤ 16777216) : oAdd (.lst x) (.lst y) st = .ok (.lst (x ++ y)) st := if_pos h
@[simp] theorem oSub_i {x y : Int} : oSub (.int x) (.int y) st = .ok (.int (x - y)) st := rfl
@[simp] theorem oMul_i {x y : Int} (h : (-18446744073709551616 < x ∧ x < 18446744073709551616) ∨ (-18446744073709551616 < y ∧ y < 18446744073709551616)) : oMul (.int x) (.int y) st = .ok (.int (x * y)) st := if_pos h
@[simp] theorem oFdiv_i {x y : Int} (h : 0 < y ∧ y < 1073741824) : oFdiv (.int x) (.int y) st = .ok (.int (x / y)) st := if_pos h
@[simp] theorem oMod_i {x y : Int} (h : 0 < y) : oMod (.int x) (.int y) st = .ok (.int (x % y)) st := if_pos h
@[simp] theorem oPow_i {x y : Int} (h : 0 ≤ y ∧ y ≤ 1000000 ∧ x.natAbs < 18446744073709551616) : oPow (.int x) (.int y) st = .ok (.int (x ^ y.toNat)) st := if_pos h
@[simp] theorem oLt_i {x y : Int} : oLt (.int x) (.int y) st = .ok (.bl (decide (x < y))) st := rfl
@[simp] theorem oLe_i {x y : Int} : oLe (.int x) (.int y) st = .ok (.bl (decide (x ≤ y))) st := rfl
@[simp] theorem oGt_i {x y : Int} : oGt (.int x) (.int y) st = .ok (.bl (decide (y < x))) st := rfl
@[simp] theorem oGe_i {x y : Int} : oGe (.int x) (.int y) st = .ok (.bl (decide (y ≤ x))) st := rfl
@[simp] theorem dEq_i {x y : Int} : dEq (.int x) (.int y) = some (decide (x = y)) := rfl
@[simp] theorem dEq_s {x y : Str} : dEq (.str x) (.str y) = some (decide (x = y)) := rfl
@[simp] theorem dEq_b {x y : Bool} : dEq (.bl x) (.bl y) = some (decide (x = y)) := rfl
@[simp] theorem dEq_nn : dEq .non .non = some true := rfl
@[simp] theorem oEq_ap {x y : D} : oEq x y st = (match dEq x y with | some b => .ok (.bl b) st | none => .no) := rfl
@[simp] theorem oNe_ap {x y : D} : oNe x y st = (match dEq x y with | some b => .ok (.bl !b) st | none => .no) := rfl
@[simp] theorem bLen_l {xs : List D} : bLen [.lst xs] st = .ok (.int xs.length) st := rfl
@[simp] theorem bLen_t {xs : List D} : bLen [.tup xs] st = .ok (.int xs.length) st := rfl
@[simp] theorem bLen_d {xs : List (Key × D)} : bLen [.dct xs] st = .ok (.int xs.length) st := rfl
@[simp] theorem bLen_s {x : Str} (h : x.length ≤ 16777216) : bLen [.str x] st = .ok (.int x.length) st := if_pos h
@[simp] theorem bList_l {xs : List D} : bList [.lst xs] st = .ok (.lst xs) st := rfl
@[simp] theorem bList_t {xs : List D} : bList [.tup xs] st = .ok (.lst xs) st := rfl
@[simp] theorem bMin2_i {x y : Int} : bMin2 [.int x, .int y] st = .ok (.int (if y < x then y else x)) st := rfl
@[simp] theorem oIx_l {xs : List D} {k : Int} : oIx (.lst xs) (.int k) st = (match L2.atI xs k with | some d => .ok d st | none => .no) := rfl
@[simp] theorem oIx_t {xs : List D} {k : Int} : oIx (.tup xs) (.int k) st = (match L2.atI xs k with | some d => .ok d st | none => .no) := rfl
@[simp] theorem atI_0 {α : Type} (a : α) (l : List α) : L2.atI (a :: l) 0 = some a := L2.atI_nat (j := 0) rfl
@[simp] theorem atI_1 {α : Type} (a b : α) (l : List α) : L2.atI (a :: b :: l) 1 = some b := L2.atI_nat (j := 1) rfl
@[simp] theorem atI_2 {α : Type} (a b c : α) (l : List α) : L2.atI (a :: b :: c :: l) 2 = some c := L2.atI_nat (j := 2) rfl
theorem ixN_lt {n j : Nat} (h : j < n) : ixN n (j : Int) = some j := by unfold ixN; rw [if_pos (Int.natCast_nonneg j), if_pos (by omega)]; rfl
@[simp] theorem setAt_0 (a x : D) (l : List D) : setAt (.lst (a :: l)) (.int 0) x = some (.lst (x :: l)) := by
  show (match ixN (a :: l).length ((0 : Nat) : Int) with | some n => _ | none => none) = _; rw [ixN_lt (by simp)]; rfl
@[simp] theorem setAt_1 (a b x : D) (l : List D) : setAt (.lst (a :: b :: l)) (.int 1) x = some (.lst (a :: x :: l)) := by
  show (match ixN (a :: b :: l).length ((1 : Nat) : Int) with | some n => _ | none => none) = _; rw [ixN_lt (by simp)]; rfl
@[simp] theorem setAt_2 (a b c x : D) (l : List D) : setAt (.lst (a :: b :: c :: l)) (.int 2) x = some (.lst (a :: b :: x :: l)) := by
  show (match ixN (a :: b :: c :: l).length ((2 : Nat) : Int) with | some n => _ | none => none) = _; rw [ixN_lt (by simp)]; rfl
@[simp] theorem oSl_l {xs : List D} {lo hi : Option Int} : oSl lo hi (.lst xs) st = .ok (.lst (cutL xs lo hi)) st := rfl
@[simp] theorem oSl_s {x : Str} {lo hi : Option Int} (h : x.length ≤ 16777216) : oSl lo hi (.str x) st = .ok (.str (cutS x lo hi)) st := if_pos h
end
end DL
namespace DL
open PySem L2
/-! ### repr -/
def kP : Key → PyData
  | .inl i => .int i
  | .inr x => .str x
mutual
def D.sh : D → Option PyData
  | .non => some .none
  | .bl b => some (.bool b)
  | .int i => some (.int i)
  | .str x => some (.str x)
  | .lst xs => (D.shL xs).map .list
  | .tup xs => (D.shL xs).map .tuple
  | .dct kvs => (D.shP kvs).map .dict
  | _ => none
def D.shL : List D → Option (List PyData)
  | [] => some []
  | x :: xs => match D.sh x, D.shL xs with
    | some d, some ds => some (d :: ds)
    | _, _ => none
def D.shP : List (Key × D) → Option (List (PyData × PyData))
  | [] => some []
  | (k, x) :: xs => match D.sh x, D.shP xs with
    | some d, some ds => some ((kP k, d) :: ds)
    | _, _ => none
end
section
variable {K : PySem.W.Frag}
theorem RepP.inv {κ : Type} {w : Wd} {vs : List (κ × V)} {k : κ} {x : D} {xs : List (κ × D)} (h : RepP K w vs ((k, x) :: xs)) : ∃ v r, vs = (k, v) :: r ∧ Rep K w v x ∧ RepP K w r xs := by
  obtain ⟨h1, h2⟩ := h
  cases vs with
  | nil => simp at h1
  | cons v r =>
    obtain ⟨k', v'⟩ := v
    simp at h1
    obtain ⟨rfl, h1⟩ := h1
    exact ⟨v', r, rfl, h2 0 _ _ rfl rfl, h1, fun i a b p q => h2 (i + 1) a b (by simpa using p) (by simpa using q)⟩
theorem RepP.inv0 {κ : Type} {w : Wd} {vs : List (κ × V)} (h : RepP K w vs ([] : List (κ × D))) : vs = [] := by
  have := h.1
  simpa using this
theorem reads_key {h : Heap} {k : Key} {v : Value} (e : keyIs k v = true) : Reads h v (kP k) [] := by
  rcases keyIs_shape e with ⟨i, t, rfl, rfl⟩ | ⟨x, t, rfl, rfl⟩
  · exact .int i t
  · exact .str x t
variable {X : Cx} {pins : List (Addr × Obj)} {σ : L2.St} {s : Shared} {w : Wd}
theorem ne_sm (I : Inv X pins σ w.H s) (hs : ∃ o, X.base.get? sysModules = some o) {a : Addr} {o : HO} (h : w.H a = some o) : sysModules ≠ a := fun q => by
  obtain ⟨u, hu⟩ := hs
  have := (I.bs _ u hu).2
  rw [q, h] at this; cases this
/-- a dict's parts, read -/
theorem dct_parts (I : Inv X pins σ w.H s) {a : Addr} {vs : List (Key × V)} (h : Rd w.H a (.dK vs)) : ∃ o es ep us, s.heap.get? a = some o ∧ o.cls = .type "dict" ∧ o.data = .dict es ep ∧ KV vs us ∧ Pairs (mixKind X.prog X.w) es.toList us ∧ sysModules ≠ a := by
  obtain ⟨_, hne, us, kv, o, es, ep, h1, h2, h3, h4, h5, _⟩ := dk_rd I.hok h
  exact ⟨o, es, ep, us, h1, h2.1, h3, kv, h5, fun q => by simp [q] at hne⟩
mutual
theorem rep_reads (I : Inv X pins σ w.H s) (hs : ∃ o, X.base.get? sysModules = some o) (k : Ok X.K w) : ∀ (d : D) (v : V) (u : Value) (e : PyData), Rep X.K w v d → d.sh = some e → RelV v u → ∃ as, Reads s.heap u e as ∧ sysModules ∉ as
  | .non, _, _, _, r, h, q => by cases r; cases h; cases q; exact ⟨_, .none, by simp⟩
  | .bl b, _, _, _, r, h, q => by cases r; cases h; cases q; exact ⟨_, .bool b, by simp⟩
  | .int i, _, _, _, r, h, q => by cases r; cases h; obtain ⟨t, rfl⟩ := q; exact ⟨_, .int i t, by simp⟩
  | .str x, _, _, _, r, h, q => by cases r; cases h; obtain ⟨t, rfl⟩ := q; exact ⟨_, .str x t, by simp⟩
  | .lst xs, _, _, _, r, h, q => by
    cases r with
    | lst m l z =>
      cases q
      cases p : D.shL xs with
      | none => simp [D.sh, p] at h
      | some es =>
        simp only [D.sh, p, Option.map_some, Option.some.injEq] at h
        subst h
        have hm := k.ex _ _ m
        obtain ⟨its, rv, ⟨o, n, ho, hc, _, hd⟩, _⟩ := I.list (SqL.of hm)
        obtain ⟨as, hr, hn⟩ := repL_reads I hs k xs _ its es ⟨l, z⟩ p rv
        exact ⟨_, .list ho hc hd hr, by simp [ne_sm I hs hm, hn]⟩
  | .tup xs, _, _, _, r, h, q => by
    cases r with
    | tup m l z =>
      cases q
      cases p : D.shL xs with
      | none => simp [D.sh, p] at h
      | some es =>
        simp only [D.sh, p, Option.map_some, Option.some.injEq] at h
        subst h
        obtain ⟨its, rv, ⟨o, ho, hc, n, hd⟩, _⟩ := I.tuple (k.sqT m)
        obtain ⟨as, hr, hn⟩ := repL_reads I hs k xs _ its es ⟨l, z⟩ p rv
        exact ⟨_, .tuple ho hc hd hr, hn⟩
  | .dct xs, _, _, _, r, h, q => by
    cases r with
    | dct m l z =>
      cases q
      cases p : D.shP xs with
      | none => simp [D.sh, p] at h
      | some es =>
        simp only [D.sh, p, Option.map_some, Option.some.injEq] at h
        subst h
        obtain ⟨o, es', ep, us, h1, h2, h3, h4, h5, h6⟩ := dct_parts I (.inr ⟨_, k.ex _ _ m⟩)
        obtain ⟨as, bs, r1, r2, n1, n2⟩ := repP_reads I hs k xs _ us es'.toList es ⟨l, z⟩ p h4 h5
        exact ⟨_, .dict h1 h2 h3 r1 r2, by simp [h6, n1, n2]⟩
  | .ins _ _, _, _, _, _, h, _ => by simp [D.sh] at h
  | .ref _, _, _, _, _, h, _ => by simp [D.sh] at h
  | .scr _, _, _, _, _, h, _ => by simp [D.sh] at h
  | .ty _, _, _, _, _, h, _ => by simp [D.sh] at h
  | .cls _, _, _, _, _, h, _ => by simp [D.sh] at h
  | .opq, _, _, _, _, h, _ => by simp [D.sh] at h
  | .tomb, _, _, _, _, h, _ => by simp [D.sh] at h
theorem repL_reads (I : Inv X pins σ w.H s) (hs : ∃ o, X.base.get? sysModules = some o) (k : Ok X.K w) : ∀ (ds : List D) (vs : List V) (us : List Value) (es : List PyData), RepL X.K w vs ds → D.shL ds = some es → Vals vs us → ∃ as, ReadsAll s.heap us es as ∧ sysModules ∉ as
  | [], _, _, _, r, h, q => by
    have := r.inv0; subst this; cases q
    simp only [D.shL, Option.some.injEq] at h; subst h
    exact ⟨_, .nil, by simp⟩
  | d :: ds, _, _, _, r, h, q => by
    obtain ⟨v, vs, rfl, r1, r2⟩ := r.inv
    cases q with
    | cons q1 q2 =>
      unfold D.shL at h
      cases p1 : D.sh d with
      | none => rw [p1] at h; cases h
      | some e =>
        cases p2 : D.shL ds with
        | none => rw [p1, p2] at h; cases h
        | some es =>
          rw [p1, p2] at h
          cases h
          obtain ⟨as, a1, a2⟩ := rep_reads I hs k d v _ e r1 p1 q1
          obtain ⟨bs, b1, b2⟩ := repL_reads I hs k ds vs _ es r2 p2 q2
          exact ⟨_, .cons a1 b1, by simp [a2, b2]⟩
theorem repP_reads (I : Inv X pins σ w.H s) (hs : ∃ o, X.base.get? sysModules = some o) (k : Ok X.K w) : ∀ (ds : List (Key × D)) (vs : List (Key × V)) (us : List (Key × Value)) (des : List DictEntry) (es : List (PyData × PyData)), RepP X.K w vs ds → D.shP ds = some es → KV vs us → Pairs (mixKind X.prog X.w) des us →
    ∃ as bs, ReadsAll s.heap (des.map (·.key)) (es.map (·.1)) as ∧ ReadsAll s.heap (des.map (·.val)) (es.map (·.2)) bs ∧ sysModules ∉ as ∧ sysModules ∉ bs
  | [], _, _, _, _, r, h, q, t => by
    have := r.inv0; subst this; cases q; cases t
    simp only [D.shP, Option.some.injEq] at h; subst h
    exact ⟨_, _, .nil, .nil, by simp, by simp⟩
  | (y, d) :: ds, _, _, _, _, r, h, q, t => by
    obtain ⟨v, vs, rfl, r1, r2⟩ := r.inv
    cases q with
    | @cons _ b _ bs q1 q2 =>
      cases t with
      | cons t1 t2 t3 =>
        obtain ⟨b1, b2⟩ := b
        obtain ⟨q0, q1⟩ := q1
        unfold D.shP at h
        cases p1 : D.sh d with
        | none => rw [p1] at h; cases h
        | some e =>
          cases p2 : D.shP ds with
          | none => rw [p1, p2] at h; cases h
          | some es =>
            rw [p1, p2] at h
            cases h
            obtain ⟨as, a1, a2⟩ := rep_reads I hs k d v _ e r1 p1 q1
            obtain ⟨cs, ds', c1, c2, c3, c4⟩ := repP_reads I hs k ds vs _ _ es r2 p2 q2 t3
            have q0' : y = b1 := q0
            subst q0'
            have a1' := a1
            rw [← (show _ = b2 from t2)] at a1'
            exact ⟨_, _, .cons (reads_key t1) c1, .cons a1' c2, by simpa using c3, by simp [a2, c4]⟩
end
/-- .. what is read -/
theorem vw_reads (I : Inv X pins σ w.H s) (hs : ∃ o, X.base.get? sysModules = some o) (k : Ok X.K w) {d : D} {v : V} {u : Value} {e : PyData} (r : Vw X.K w v d) (h : d.sh = some e) (q : RelV v u) : ∃ as, Reads s.heap u e as ∧ sysModules ∉ as := by
  cases d with
  | non => obtain rfl := r; cases h; cases q; exact ⟨_, .none, by simp⟩
  | bl b => obtain rfl := r; cases h; cases q; exact ⟨_, .bool b, by simp⟩
  | int i => obtain rfl := r; cases h; obtain ⟨t, rfl⟩ := q; exact ⟨_, .int i t, by simp⟩
  | str x => obtain rfl := r; cases h; obtain ⟨t, rfl⟩ := q; exact ⟨_, .str x t, by simp⟩
  | lst xs =>
    obtain ⟨a, vs, rfl, m, z⟩ := r
    cases q
    cases p : D.shL xs with
    | none => simp [D.sh, p] at h
    | some es =>
      simp only [D.sh, p, Option.map_some, Option.some.injEq] at h
      subst h
      obtain ⟨its, rv, ⟨o, n, ho, hc, _, hd⟩, _⟩ := I.list (SqL.of m)
      obtain ⟨as, hr, hn⟩ := repL_reads I hs k xs _ its es z p rv
      exact ⟨_, .list ho hc hd hr, by simp [ne_sm I hs m, hn]⟩
  | tup xs =>
    obtain ⟨a, vs, rfl, m, z⟩ := r
    cases q
    cases p : D.shL xs with
    | none => simp [D.sh, p] at h
    | some es =>
      simp only [D.sh, p, Option.map_some, Option.some.injEq] at h
      subst h
      obtain ⟨its, rv, ⟨o, ho, hc, n, hd⟩, _⟩ := I.tuple m
      obtain ⟨as, hr, hn⟩ := repL_reads I hs k xs _ its es z p rv
      exact ⟨_, .tuple ho hc hd hr, hn⟩
  | dct xs =>
    obtain ⟨a, vs, rfl, m, z⟩ := r
    cases q
    cases p : D.shP xs with
    | none => simp [D.sh, p] at h
    | some es =>
      simp only [D.sh, p, Option.map_some, Option.some.injEq] at h
      subst h
      obtain ⟨o, es', ep, us, h1, h2, h3, h4, h5, h6⟩ := dct_parts I m
      obtain ⟨as, bs, r1, r2, n1, n2⟩ := repP_reads I hs k xs _ us es'.toList es z p h4 h5
      exact ⟨_, .dict h1 h2 h3 r1 r2, by simp [h6, n1, n2]⟩
  | _ => simp [D.sh] at h
end
/-- what repr's rule asks of data -/
def ShOk (e : PyData) : Prop := e.showable = true ∧ e.depth ≤ 60 ∧ e.shown.length ≤ 16777216
instance (e : PyData) : Decidable (ShOk e) := inferInstanceAs (Decidable (_ ∧ _))
def bRepr : List D → Store → ER
  | [d], st => match d.sh with
    | some e => if ShOk e then .ok (.str e.shown) st else .no
    | none => .no
  | _, _ => .no
def rRepr (K : PySem.W.Frag) : List V → Hp → VK → Prop := fun xs H Q => ∃ (w : Wd) (v : V) (d : D) (e : PyData), w.H = H ∧ Ok K w ∧ xs = [v] ∧ Vw K w v d ∧ d.sh = some e ∧ ShOk e ∧ Q (.str e.shown) H
section
variable {X : Cx}
theorem call_repr (hg : Tp X.A X.base) {k : Nat} (hr : Room k X.A) : CallR X (.builtin "repr") (rRepr X.K) := by
  intro pins s σ H xs us Q I r h
  obtain ⟨w, v, d, e, rfl, k, rfl, vw, he, ⟨h1, h2, h3⟩, q⟩ := h
  obtain ⟨u, rfl, ru⟩ := vals1 r
  obtain ⟨as, rd, hn⟩ := vw_reads I hg.2 k vw he ru
  have out : ∀ (t : Tok) (s' : Shared), Inv X pins σ w.H s' → EP X pins σ Q (.str e.shown t) s' := fun t s' I' => ⟨.str _, w.H, I', ⟨t, rfl⟩, q⟩
  cases rd with
  | none => exact PySem.P.repr_of_none (out _ _ (I.tok _))
  | bool b => exact PySem.P.repr_of_bool (out _ _ (I.tok _))
  | int i t => exact PySem.P.repr_of_int (by simpa [PyData.showable] using h1) (out _ _ (I.tok _))
  | str x t => exact PySem.P.repr_of_str (out _ _ (I.tok _)) (by rw [sizeLine_eq]; exact h3)
  | list a1 a2 a3 a4 => exact repr_of_reads' (Reads.list a1 a2 a3 a4) h1 (fun _ => hn) hg.1 (by have := hr.units; omega) (fun _ _ z => z) (fun h' u tk hk => out _ _ (I.kept hk)) (by rw [sizeLine_eq]; exact h3)
  | tuple a1 a2 a3 a4 => exact repr_of_reads' (Reads.tuple a1 a2 a3 a4) h1 (fun _ => hn) hg.1 (by have := hr.units; omega) (fun _ _ z => z) (fun h' u tk hk => out _ _ (I.kept hk)) (by rw [sizeLine_eq]; exact h3)
  | dict a1 a2 a3 a4 a5 => exact repr_of_reads' (Reads.dict a1 a2 a3 a4 a5) h1 (fun _ => hn) hg.1 (by have := hr.units; omega) (fun _ _ z => z) (fun h' u tk hk => out _ _ (I.kept hk)) (by rw [sizeLine_eq]; exact h3)
end
section
variable {P : Program} {wd : World} {K : PySem.W.Frag} {mg : Str → Option Value} {base : Heap} {k : Nat} {N : List Str} {sc : SC} {W : WX}
theorem cd_repr : CallD K (rRepr K) bRepr := fun w vs ds Q E k v p => by
  unfold bRepr at p
  split at p
  · obtain ⟨x, rfl, h⟩ := v.one
    split at p
    · rename_i e he
      obtain ⟨hs, p⟩ := PostE.ite p
      exact ⟨w, x, _, e, rfl, k, rfl, h, he, hs, p.now k .str⟩
    · exact p.elim
  · exact p.elim
theorem pr_repr {e : Expr} {ms : EM} {p pos : Pos} (hm : mg "repr" = none) (ha : PAb P wd K mg base k N sc W [e] ms) (hg : sc.s.names.lookup ("repr" : Str) = some .globalImplicit := by rfl) (he : ∀ env, starEach [e] env = (false, eval e env) :: starEach [] env := by intro _; rfl) :
    PR P wd K mg base k N sc W (.Call (.Name "repr" p) [e] [] pos) (eB bRepr ms) :=
  pr_B (id := "repr") (fun X g => by have := call_repr (X := X) g.grd g.room; rw [g.kk] at this; exact this) cd_repr hm (by decide +kernel) ha hg (by decide) (by decide) he (fun _ => rfl)
end
end DL
namespace DL
open PySem L2
/-! ### a new dict is locked: from then on it is read only -/
def lk (t : TE) : TE := fun σ H Q => t σ H fun v H' => Q v H' ∨ ∃ d kvs, v = .ref d ∧ H' d = some (.dK kvs) ∧ ∀ od, Q v (upd H' d (.frz od (.dK kvs)))
theorem pe_lk {X : Cx} {e : Expr} {t : TE} (h : PE X e t) : PE X e (lk t) := ⟨fun pins s σ H Q I q => thn (h.run pins s σ H _ I q) fun u s' ⟨v, H', I', r, z⟩ => by
  rcases z with z | ⟨d, kvs, rfl, hd, z⟩
  · exact ⟨v, H', I', r, z⟩
  · obtain ⟨od, I2⟩ := I'.lock hd True.intro
    exact ⟨_, _, I2, r, z od⟩⟩
theorem PE.or {X : Cx} {e : Expr} {t u : TE} (h : PE X e t) (h' : PE X e u) : PE X e (fun σ H Q => t σ H Q ∨ u σ H Q) := ⟨fun pins s σ H Q I q => q.elim (h.run pins s σ H Q I) (h'.run pins s σ H Q I)⟩
section
variable {P : Program} {wd : World} {K : PySem.W.Frag} {mg : Str → Option Value} {base : Heap} {k : Nat} {N : List Str} {sc : SC} {W : WX}
/-- a new thing o at a is frozen as o' -/
theorem fz_as {w w' : Wd} {a : Addr} {o o' : HO} (e : Evo w w') (k : Ok K w') (ha : w.H a = none) (h : w'.H a = some o) (hm : w'.M a = none) (hr : ∀ l, l < w'.st.length → w'.ρ l ≠ a) :
    ∃ w2 : Wd, w2.H = upd w'.H a o' ∧ w2.st = w'.st ∧ Evo w w2 ∧ Ok K w2 ∧ Ext w' w2 ∧ w2.M a = some o' := by
  have x : Ext w' { w' with M := upd w'.M a o', H := upd w'.H a o' } := ⟨fun b u q => by show upd w'.M a _ b = _; rw [upd_ne (ne_of_none q hm)]; exact q, fun _ _ => rfl, Nat.le_refl _⟩
  refine ⟨{ w' with M := upd w'.M a o', H := upd w'.H a o' }, rfl, rfl, ⟨(e.ext.trans x).mono, e.rho, e.le, fun b u q n => ?_, e.newR, fun b u hb hmb hrb => ?_⟩, ⟨fun b u q => ?_, fun l d q => ?_, k.inj⟩, x, upd_same⟩
  · by_cases z : b = a
    · rw [z]; exact ha
    · have q' : upd w'.M a o' b = some u := q
      rw [upd_ne z] at q'; exact e.newM b u q' n
  · show upd w'.H a o' b = _
    rw [upd_ne (ne_of_none hb ha)]; exact e.keep b u hb hmb hrb
  · have q' : upd w'.M a o' b = some u := q
    show upd w'.H a o' b = _
    by_cases z : b = a
    · rw [z, upd_same] at q' ⊢; exact q'
    · rw [upd_ne z] at q' ⊢; exact k.ex b u q'
  · obtain ⟨u, h1, h2⟩ := k.sto l d q
    have ne := hr l (getElem?_lt q)
    refine ⟨u, ?_, h2.imp id fun ⟨h2, h3⟩ => ⟨?_, h3.ext x⟩⟩
    · show upd w'.H a o' (w'.ρ l) = _
      rw [upd_ne ne]; exact h1
    · show upd w'.M a o' (w'.ρ l) = _
      rw [upd_ne ne]; exact h2
/-- it is a thing that can be new -/
def IsNew (m : EM) : Prop := ∀ Γ st d s, m Γ st = .ok d s → match d with | .lst _ => True | .dct _ => True | .ins _ _ => True | _ => False
theorem upd_id {H : Hp} {a : Addr} {o : HO} (h : H a = some o) : upd H a o = H := by
  funext b
  by_cases z : b = a
  · rw [z, upd_same, h]
  · rw [upd_ne z]
theorem RTN.fz {t : TE} {m : EM} (h : RTN K W t m) (hn : IsNew m) : RT K W (lk t) m := by
  intro H0 w Γ σ ok f Q p
  refine h H0 w Γ σ ok f _ ?_
  cases e : m Γ w.st with
  | err x st => rw [e] at p; exact p
  | no => rw [e] at p; exact p
  | ok d st =>
    rw [e] at p
    have hd := hn _ _ _ _ e
    intro a o w' ev k' s ha ho hm hr r
    cases d with
    | lst xs =>
      obtain ⟨vs, rfl, rl⟩ := r
      obtain ⟨w2, q1, q2, q3, q4, q5, q6⟩ := fz_as (o' := .lst vs) ev k' ha ho hm hr
      refine .inl ?_
      have q1' : w2.H = w'.H := q1.trans (upd_id ho)
      rw [← q1']
      have rl' := rl.ext q5
      exact p _ w2 q3 q4 (q2.trans s) (.lst q6 rl'.1 rl'.2)
    | ins C fs =>
      obtain ⟨dx, vs, rfl, rl⟩ := r
      obtain ⟨w2, q1, q2, q3, q4, q5, q6⟩ := fz_as (o' := .ins (cA K C) dx vs) ev k' ha ho hm hr
      refine .inl ?_
      have q1' : w2.H = w'.H := q1.trans (upd_id ho)
      rw [← q1']
      have rl' := rl.ext q5
      exact p _ w2 q3 q4 (q2.trans s) (.ins q6 rl'.1 rl'.2)
    | dct xs =>
      obtain ⟨vs, rfl, rl⟩ := r
      refine .inr ⟨a, vs, rfl, ho, fun od => ?_⟩
      obtain ⟨w2, q1, q2, q3, q4, q5, q6⟩ := fz_as (o' := .frz od (.dK vs)) ev k' ha ho hm hr
      rw [← q1]
      have rl' := rl.ext q5
      exact p _ w2 q3 q4 (q2.trans s) (.dct q6 rl'.1 rl'.2)
    | _ => exact hd.elim
theorem PN.fz {e : Expr} {m : EM} (h : PN P wd K mg base k N sc W e m) (hn : IsNew m) : PR P wd K mg base k N sc W e m := let ⟨t, a, b⟩ := h; ⟨lk t, fun X g => pe_lk (a X g), b.fz hn⟩

/-! ### {}, dict(pairs), tuple(xs) -/
def eDnew : EM := fun _ st => .ok (.dct []) st
theorem pn_dnew {pos : Pos} : PN P wd K mg base k N sc W (.Dict [] [] pos) eDnew := ⟨_, fun X g => pe_dnewK, fun H0 w Γ σ ok f Q p a ha => PostN.al p ok ha ⟨[], rfl, rfl, fun i v x h => by simp at h⟩⟩
theorem pr_dnew {pos : Pos} : PR P wd K mg base k N sc W (.Dict [] [] pos) eDnew := pn_dnew.fz fun _ _ _ _ h => by cases h; trivial
/-- a new thing from read arguments -/
def CallN (K : PySem.W.Frag) (r : List V → Hp → VK → Prop) (f : List D → Store → ER) : Prop := ∀ (w : Wd) (vs : List V) (ds : List D) (Q : VK) (E : XK), Ok K w → VwL K w vs ds → PostN K w (f ds w.st) Q E → r vs w.H Q
theorem rtn_B {r : List V → Hp → VK → Prop} {f : List D → Store → ER} {t : TA} {ms : EM} (h : CallN K r f) (ra : RTAB K W t ms) : RTN K W (tCB r t) (eB f ms) := by
  intro H0 w Γ σ ok f0 Q q
  refine RTAB.use (P := fun w r => PostN K w r Q (at_ W σ)) ra ok f0 (fun _ _ e k p => p.shift e k) (fun _ _ p => p) (fun p => p) (fun d st hb => by cases d <;> first | rfl | exact absurd rfl (hb _)) q fun ds vs w1 e1 k1 f1 r1 p1 => ?_
  exact h w1 vs _ Q _ k1 (r1.vw k1 f1) p1
theorem pn_Ty {r : List V → Hp → VK → Prop} {f : List D → Store → ER} {T : String} {x : Str} {e : Expr} {es : List Expr} {ms : EM} {p pos : Pos} (hc : ∀ X, G P wd K mg base k N sc W X → CallR X (.type T) r) (h : CallN K r f) (hm : mg x = none) (hv : bootBuiltins x = some (.type T))
    (ha : PAb P wd K mg base k N sc W (e :: es) ms) (hg : sc.s.names.lookup x = some .globalImplicit := by rfl) (hn : x ≠ "__name__" := by decide) (hdb : (x == ("__debug__" : Str)) = false := by decide)
    (he : ∀ env, starEach (e :: es) env = (false, eval e env) :: starEach es env := by intro _; rfl) (hpl : ∀ env, (backTo pos (starEach es env)).any (·.1) = false := by intro _; rfl) :
    PN P wd K mg base k N sc W (.Call (.Name x p) (e :: es) [] pos) (eB f ms) := by
  obtain ⟨t, pt, ra⟩ := ha
  refine ⟨_, fun X g => ?_, rtn_B h ra⟩
  exact pe_callTy (hc X g) (by unfold Gl PySem.Env.kindOf; rw [g.scp]; exact hg) (by rw [g.mg]; exact hm) hv (pt X g) hn hdb (he X.env) (hpl X.env)
theorem eB_new {f : List D → Store → ER} {ms : EM} (h : ∀ ds st d s, f ds st = .ok d s → match d with | .lst _ => True | .dct _ => True | .ins _ _ => True | _ => False) : IsNew (eB f ms) := fun Γ st d s q => by
  unfold eB at q
  cases e : ms Γ st with
  | err x st => rw [e] at q; cases q
  | no => rw [e] at q; cases q
  | ok a s1 =>
    rw [e] at q
    cases a with
    | tup ds => exact h _ _ _ _ q
    | _ => cases q
/-- keys -/
def keyD : D → Option Key
  | .int i => some (.inl i)
  | .str x => some (.inr x)
  | _ => none
theorem keyD_rep {w : Wd} {v : V} {d : D} {k : Key} (r : Rep K w v d) (h : keyD d = some k) : v = kV k := by
  cases r <;> cases h <;> rfl
theorem keyD_vw {w : Wd} {v : V} {d : D} {k : Key} (r : Vw K w v d) (h : keyD d = some k) : v = kV k := by
  cases d <;> cases h
  · exact r
  · exact r
def putD (kvs : List (Key × D)) (k : Key) (v : D) : List (Key × D) :=
  if (kvs.any fun kv => decide (kv.1 = k)) = true then kvs.map (fun kv => if kv.1 = k then (kv.1, v) else kv) else kvs ++ [(k, v)]
def mergeD (kvs more : List (Key × D)) : List (Key × D) := more.foldl (fun acc kv => putD acc kv.1 kv.2) kvs
theorem repP_put {w : Wd} {vs : List (Key × V)} {xs : List (Key × D)} (r : RepP K w vs xs) (k : Key) {v : V} {x : D} (h : Rep K w v x) : RepP K w (putK vs k v) (putD xs k x) := by
  have e : (vs.any fun kv => decide (kv.1 = k)) = (xs.any fun kv => decide (kv.1 = k)) := by
    have h1 : (vs.any fun kv => decide (kv.1 = k)) = (vs.map (·.1)).any fun y => decide (y = k) := by rw [List.any_map]; rfl
    have h2 : (xs.any fun kv => decide (kv.1 = k)) = (xs.map (·.1)).any fun y => decide (y = k) := by rw [List.any_map]; rfl
    rw [h1, h2, r.1]
  unfold putK putD
  rw [e]
  by_cases q : (xs.any fun kv => decide (kv.1 = k)) = true
  · rw [if_pos q, if_pos q]
    refine ⟨?_, fun i a b p1 p2 => ?_⟩
    · rw [List.map_map, List.map_map]
      have f1 : ((fun x : Key × V => x.1) ∘ fun kv => if kv.1 = k then (kv.1, v) else kv) = (·.1) := by funext kv; simp only [Function.comp]; split <;> rfl
      have f2 : ((fun x : Key × D => x.1) ∘ fun kv => if kv.1 = k then (kv.1, x) else kv) = (·.1) := by funext kv; simp only [Function.comp]; split <;> rfl
      rw [f1, f2]; exact r.1
    · rw [List.getElem?_map] at p1 p2
      cases z1 : vs[i]? with
      | none => rw [z1] at p1; cases p1
      | some a' =>
        cases z2 : xs[i]? with
        | none => rw [z2] at p2; cases p2
        | some b' =>
          rw [z1] at p1; rw [z2] at p2; cases p1; cases p2
          have ke : a'.1 = b'.1 := by
            have := congrArg (fun l => l[i]?) r.1
            simp only [List.getElem?_map, z1, z2, Option.map_some, Option.some.injEq] at this
            exact this
          by_cases y : a'.1 = k
          · have y' : b'.1 = k := ke ▸ y
            simp only [y, y', if_true]; exact h
          · have y' : ¬ b'.1 = k := ke ▸ y
            simp only [y, y', if_false]; exact r.2 i a' b' z1 z2
  · rw [if_neg q, if_neg q]
    refine ⟨by simp [r.1], fun i a b p1 p2 => ?_⟩
    have hl : vs.length = xs.length := r.len
    by_cases z : i < vs.length
    · rw [List.getElem?_append_left z] at p1
      rw [List.getElem?_append_left (hl ▸ z)] at p2
      exact r.2 i a b p1 p2
    · rw [List.getElem?_append_right (Nat.le_of_not_lt z)] at p1
      rw [List.getElem?_append_right (hl ▸ Nat.le_of_not_lt z)] at p2
      rw [hl] at p1
      cases j : i - xs.length with
      | zero => rw [j] at p1 p2; simp at p1 p2; subst p1; subst p2; exact h
      | succ n => rw [j] at p1; simp at p1
theorem repP_merge {w : Wd} : ∀ {ms : List (Key × V)} {ns : List (Key × D)} {vs : List (Key × V)} {xs : List (Key × D)}, RepP K w ms ns → RepP K w vs xs → RepP K w (mergeK vs ms) (mergeD xs ns)
  | ms, [], vs, xs, r, q => by rw [r.inv0]; exact q
  | ms, (k, x) :: ns, vs, xs, r, q => by
    obtain ⟨v, r', rfl, h, t⟩ := r.inv
    show RepP K w (mergeK (putK vs k v) r') (mergeD (putD xs k x) ns)
    exact repP_merge t (repP_put q k h)
theorem RepP.nil {κ : Type} {w : Wd} : RepP K w ([] : List (κ × V)) [] := ⟨rfl, fun i v x h => by simp at h⟩
theorem RepP.cons {κ : Type} {w : Wd} {k : κ} {v : V} {x : D} {vs : List (κ × V)} {xs : List (κ × D)} (h : Rep K w v x) (t : RepP K w vs xs) : RepP K w ((k, v) :: vs) ((k, x) :: xs) := ⟨by simp [t.1], fun i a b p q => by
  cases i with
  | zero => simp at p q; subst p; subst q; exact h
  | succ i => exact t.2 i a b (by simpa using p) (by simpa using q)⟩
def pairsD : List D → Option (List (Key × D))
  | [] => some []
  | .tup [a, b] :: r => match keyD a, pairsD r with
    | some k, some ps => some ((k, b) :: ps)
    | _, _ => none
  | _ => none
def bDict : List D → Store → ER
  | [.lst xs], st => match pairsD xs with
    | some ps => .ok (.dct (mergeD [] ps)) st
    | none => .no
  | _, _ => .no
theorem pairs_rep {w : Wd} (k : Ok K w) : ∀ {vs : List V} {xs : List D} {ps : List (Key × D)}, RepL K w vs xs → pairsD xs = some ps → ∃ (as : List Addr) (kvs : List (Key × V)), vs = as.map V.ref ∧ Paired (fun p kv => SqT K w.H p [kV kv.1, kv.2]) as kvs ∧ RepP K w kvs ps := by
  intro vs xs
  induction xs generalizing vs with
  | nil => intro ps r h; cases h; rw [r.inv0]; exact ⟨[], [], rfl, .nil, .nil⟩
  | cons d xs ih =>
    intro ps r h
    obtain ⟨v, us, rfl, r1, r2⟩ := r.inv
    unfold pairsD at h
    split at h
    · rename_i heq; cases heq
    · rename_i a b r' heq
      cases heq
      split at h
      · rename_i ky ps' hk hp
        cases h
        obtain ⟨as, kvs, rfl, h1, h2⟩ := ih r2 hp
        cases r1 with
        | tup m l z =>
          have rl : RepL K w _ [a, b] := ⟨l, z⟩
          obtain ⟨va, r1', rfl, ra, t⟩ := rl.inv
          obtain ⟨vb, r2', rfl, rb, t2⟩ := t.inv
          have e := t2.inv0
          subst e
          have ek := keyD_rep ra hk
          subst ek
          exact ⟨_ :: as, (ky, vb) :: kvs, rfl, .cons (k.sqT m) h1, .cons rb h2⟩
      · cases h
    · cases h
theorem cn_dict : CallN K (fun xs H Q => ∃ (a : Addr) (ps : List Addr) (kvs : List (Key × V)), xs = [.ref a] ∧ SqL K H a (ps.map V.ref) ∧ Paired (fun p kv => SqT K H p [kV kv.1, kv.2]) ps kvs ∧
    ∀ p, H p = none → Q (.ref p) (upd H p (.dK (mergeK [] kvs)))) bDict := fun w vs ds Q E k v p => by
  unfold bDict at p
  split at p
  · rename_i xs
    obtain ⟨x, rfl, a, us, rfl, m, r⟩ := v.one
    cases h : pairsD xs with
    | none => rw [h] at p; exact p.elim
    | some ps =>
      rw [h] at p
      obtain ⟨as, kvs, rfl, h1, h2⟩ := pairs_rep k r h
      exact ⟨a, as, kvs, rfl, SqL.of m, h1, fun l hl => PostN.al p k hl ⟨_, rfl, repP_merge h2 .nil⟩⟩
  · exact p.elim
theorem pn_dict {e : Expr} {ms : EM} {p pos : Pos} (hm : mg "dict" = none) (ha : PAb P wd K mg base k N sc W [e] ms) (hg : sc.s.names.lookup ("dict" : Str) = some .globalImplicit := by rfl) (he : ∀ env, starEach [e] env = (false, eval e env) :: starEach [] env := by intro _; rfl) :
    PN P wd K mg base k N sc W (.Call (.Name "dict" p) [e] [] pos) (eB bDict ms) :=
  pn_Ty (T := "dict") (fun X g => by have := call_dictP (X := X) g.calm; rw [g.kk] at this; exact this) cn_dict hm (by decide +kernel) ha hg (by decide) (by decide) he (fun _ => rfl)
theorem pr_dict {e : Expr} {ms : EM} {p pos : Pos} (hm : mg "dict" = none) (ha : PAb P wd K mg base k N sc W [e] ms) (hg : sc.s.names.lookup ("dict" : Str) = some .globalImplicit := by rfl) (he : ∀ env, starEach [e] env = (false, eval e env) :: starEach [] env := by intro _; rfl) :
    PR P wd K mg base k N sc W (.Call (.Name "dict" p) [e] [] pos) (eB bDict ms) := (pn_dict hm ha hg he).fz (eB_new fun ds st d s h => by
  unfold bDict at h
  split at h
  · split at h
    · cases h; trivial
    · cases h
  · cases h)
def bTuple : List D → Store → ER
  | [.lst xs], st => .ok (.tup xs) st
  | _, _ => .no
theorem cd_tuple : CallD K (fun xs H Q => ∃ p ys, xs = [.ref p] ∧ ((SqL K H p ys ∧ ∀ l, H l = none → Q (.ref l) (upd H l (.tup ys))) ∨ (SqT K H p ys ∧ Q (.ref p) H))) bTuple := fun w vs ds Q E k v p => by
  unfold bTuple at p
  split at p
  · obtain ⟨x, rfl, a, us, rfl, h, r⟩ := v.one; exact ⟨_, _, rfl, .inl ⟨SqL.of h, fun l hl => p.tup rfl k r l hl⟩⟩
  · exact p.elim
theorem pr_tuple {e : Expr} {ms : EM} {p pos : Pos} (hm : mg "tuple" = none) (ha : PAb P wd K mg base k N sc W [e] ms) (hg : sc.s.names.lookup ("tuple" : Str) = some .globalImplicit := by rfl) (he : ∀ env, starEach [e] env = (false, eval e env) :: starEach [] env := by intro _; rfl) :
    PR P wd K mg base k N sc W (.Call (.Name "tuple" p) [e] [] pos) (eB bTuple ms) :=
  pr_Ty (T := "tuple") (fun X g => by rw [← g.kk]; exact call_tuple_of) cd_tuple hm (by decide +kernel) ha hg (by decide) (by decide) he (fun _ => rfl)

/-! ### all, any -/
def blsD : List D → Option (List Bool)
  | [] => some []
  | .bl b :: r => (blsD r).map (b :: ·)
  | _ => none
theorem bls_rep {w : Wd} : ∀ {vs : List V} {xs : List D} {bs : List Bool}, RepL K w vs xs → blsD xs = some bs → vs = bs.map V.bl := by
  intro vs xs
  induction xs generalizing vs with
  | nil => intro bs r h; cases h; rw [r.inv0]; rfl
  | cons d xs ih =>
    intro bs r h
    obtain ⟨v, us, rfl, r1, r2⟩ := r.inv
    cases d with
    | bl b =>
      unfold blsD at h
      cases e : blsD xs with
      | none => rw [e] at h; cases h
      | some cs => rw [e] at h; cases h; cases r1; rw [ih r2 e]; rfl
    | _ => cases h
def bAll : List D → Store → ER
  | [.lst xs], st => match blsD xs with | some bs => .ok (.bl (bs.all id)) st | none => .no
  | _, _ => .no
def bAny : List D → Store → ER
  | [.lst xs], st => match blsD xs with | some bs => .ok (.bl (bs.any id)) st | none => .no
  | _, _ => .no
theorem cd_all : CallD K (rAll K) bAll := fun w vs ds Q E k v p => by
  unfold bAll at p
  split at p
  · obtain ⟨x, rfl, a, us, rfl, m, r⟩ := v.one
    split at p
    · rename_i bs h; have := bls_rep r h; subst this; exact ⟨a, bs, rfl, SqL.of m, p.now k .bl⟩
    · exact p.elim
  · exact p.elim
theorem cd_any : CallD K (rAny K) bAny := fun w vs ds Q E k v p => by
  unfold bAny at p
  split at p
  · obtain ⟨x, rfl, a, us, rfl, m, r⟩ := v.one
    split at p
    · rename_i bs h; have := bls_rep r h; subst this; exact ⟨a, bs, rfl, SqL.of m, p.now k .bl⟩
    · exact p.elim
  · exact p.elim
theorem pr_all {e : Expr} {ms : EM} {p pos : Pos} (hm : mg "all" = none) (ha : PAb P wd K mg base k N sc W [e] ms) (hg : sc.s.names.lookup ("all" : Str) = some .globalImplicit := by rfl) (he : ∀ env, starEach [e] env = (false, eval e env) :: starEach [] env := by intro _; rfl) :
    PR P wd K mg base k N sc W (.Call (.Name "all" p) [e] [] pos) (eB bAll ms) :=
  pr_B (id := "all") (fun X g => by have := cr_all (X := X) g.calm; rw [g.kk] at this; exact this) cd_all hm (by decide +kernel) ha hg (by decide) (by decide) he (fun _ => rfl)
theorem pr_any {e : Expr} {ms : EM} {p pos : Pos} (hm : mg "any" = none) (ha : PAb P wd K mg base k N sc W [e] ms) (hg : sc.s.names.lookup ("any" : Str) = some .globalImplicit := by rfl) (he : ∀ env, starEach [e] env = (false, eval e env) :: starEach [] env := by intro _; rfl) :
    PR P wd K mg base k N sc W (.Call (.Name "any" p) [e] [] pos) (eB bAny ms) :=
  pr_B (id := "any") (fun X g => by have := cr_any (X := X) g.calm; rw [g.kk] at this; exact this) cd_any hm (by decide +kernel) ha hg (by decide) (by decide) he (fun _ => rfl)

/-! ### in -/
def flD : D → Option V
  | .non => some .non
  | .bl b => some (.bl b)
  | .int i => some (.int i)
  | .str x => some (.str x)
  | _ => none
def flDs : List D → Option (List V)
  | [] => some []
  | d :: ds => match flD d, flDs ds with
    | some v, some vs => some (v :: vs)
    | _, _ => none
theorem fl_vw {w : Wd} {v u : V} {d : D} (r : Vw K w v d) (h : flD d = some u) : v = u ∧ flatV u = true := by
  cases d <;> cases h <;> exact ⟨r, rfl⟩
theorem fl_rep {w : Wd} {v u : V} {d : D} (r : Rep K w v d) (h : flD d = some u) : v = u ∧ flatV u = true := by
  cases d <;> cases h <;> cases r <;> exact ⟨rfl, rfl⟩
theorem fls_rep {w : Wd} : ∀ {vs us : List V} {xs : List D}, RepL K w vs xs → flDs xs = some us → vs = us ∧ us.all flatV = true := by
  intro vs us xs
  induction xs generalizing vs us with
  | nil => intro r h; cases h; exact ⟨r.inv0, rfl⟩
  | cons d xs ih =>
    intro r h
    obtain ⟨v, ws, rfl, r1, r2⟩ := r.inv
    unfold flDs at h
    split at h
    · rename_i v' vs' h1 h2
      cases h
      obtain ⟨rfl, e1⟩ := fl_rep r1 h1
      obtain ⟨rfl, e2⟩ := ih r2 h2
      exact ⟨rfl, by rw [List.all_cons, e1, e2]; rfl⟩
    · cases h
def hasK (kvs : List (Key × D)) (k : Key) : Bool := kvs.any fun kv => decide (kv.1 = k)
def inD (x y : D) : Option Bool := match y with
  | .lst ys => match flD x, flDs ys with | some v, some vs => some (inV v vs) | _, _ => none
  | .tup ys => match flD x, flDs ys with | some v, some vs => some (inV v vs) | _, _ => none
  | .str z => match x with | .str a => (match a.cps with | ⟨[c]⟩ => some (decide (c ∈ z.cps.toList)) | _ => none) | _ => none
  | .dct kvs => match keyD x with | some k => some (hasK kvs k) | none => none
  | _ => none
def oIn : D → D → Store → ER := fun x y st => match inD x y with | some b => .ok (.bl b) st | none => .no
def oNotIn : D → D → Store → ER := fun x y st => match inD x y with | some b => .ok (.bl !b) st | none => .no
theorem valV_has {w : Wd} {vs : List (Key × V)} {xs : List (Key × D)} (r : RepP K w vs xs) (k : Key) : (valV vs k).isSome = hasK xs k := by
  unfold valV hasK
  have h2 : (xs.any fun kv => decide (kv.1 = k)) = (xs.map (·.1)).any fun y => decide (y = k) := by rw [List.any_map]; rfl
  have h1 : (vs.any fun kv => decide (kv.1 = k)) = (vs.map (·.1)).any fun y => decide (y = k) := by rw [List.any_map]; rfl
  rw [h2, ← r.1, ← h1, Option.isSome_map]
  induction vs generalizing xs with
  | nil => rfl
  | cons p ps ih =>
    obtain ⟨k0, v0⟩ := p
    cases xs with
    | nil => have := r.1; simp at this
    | cons q qs =>
      obtain ⟨k1, x1⟩ := q
      obtain ⟨v', r', e, h, t⟩ := r.inv
      cases e
      have ih' := ih t (by rw [List.any_map]; rfl) (by rw [List.any_map]; rfl)
      by_cases z : k0 = k
      · simp [List.find?_cons, z]
      · simp only [List.find?_cons, List.any_cons, z, decide_false, Bool.false_or]; exact ih'
def rSgn : R2 := fun x y H Q => ∃ (c : Nat) (z : Str), x = .str ⟨#[c]⟩ ∧ y = .str z ∧ Q (.bl (decide (c ∈ z.cps.toList))) H
def rNotSgn : R2 := fun x y H Q => ∃ (c : Nat) (z : Str), x = .str ⟨#[c]⟩ ∧ y = .str z ∧ Q (.bl (!decide (c ∈ z.cps.toList))) H
def rInDct (neg : Bool) : R2 := fun y x H Q => ∃ a o, x = .ref a ∧ DGet H a y o ∧ Q (.bl (if neg then !o.isSome else o.isSome)) H
theorem op_inDct {X : Cx} (hu : X.A.units + 1 < cLine) : OpR X (compareOp .In) (rInDct false) := by
  intro pins s σ H x y u v Q I rx ry h
  obtain ⟨a, o, rfl, g, q⟩ := h
  cases ry
  exact d_in hu I g rx fun s' I' => ⟨.bl _, H, I', rfl, q⟩
theorem op_notInDct {X : Cx} (hu : X.A.units + 1 < cLine) : OpR X (compareOp .NotIn) (rInDct true) := by
  intro pins s σ H x y u v Q I rx ry h
  obtain ⟨a, o, rfl, g, q⟩ := h
  cases ry
  exact d_notIn hu I g rx fun s' I' => ⟨.bl _, H, I', rfl, q⟩
theorem od_in : OpD K (rOr (rIn K false) (rOr rSgn (rInDct false))) oIn := fun w x y dx dy Q E k vx vy p => by
  unfold oIn inD at p
  cases dy with
  | lst ys =>
    obtain ⟨a, vs, rfl, m, r⟩ := vy
    dsimp only at p
    split at p
    · rename_i b hb
      split at hb
      · rename_i v us h1 h2
        cases hb
        obtain ⟨rfl, e1⟩ := fl_vw vx h1
        obtain ⟨rfl, e2⟩ := fls_rep r h2
        exact .inl ⟨a, _, rfl, .inl (SqL.of m), e1, e2, p.now k .bl⟩
      · cases hb
    · exact p.elim
  | tup ys =>
    obtain ⟨a, vs, rfl, m, r⟩ := vy
    dsimp only at p
    split at p
    · rename_i b hb
      split at hb
      · rename_i v us h1 h2
        cases hb
        obtain ⟨rfl, e1⟩ := fl_vw vx h1
        obtain ⟨rfl, e2⟩ := fls_rep r h2
        exact .inl ⟨a, _, rfl, .inr m, e1, e2, p.now k .bl⟩
      · cases hb
    · exact p.elim
  | str z =>
    obtain rfl := vy
    cases dx with
    | str a =>
      obtain rfl := vx
      dsimp only at p
      split at p
      · rename_i b hb
        split at hb
        · rename_i c hc
          cases hb
          obtain ⟨cs⟩ := a
          subst hc
          exact .inr (.inl ⟨c, z, rfl, rfl, p.now k .bl⟩)
        · cases hb
      · exact p.elim
    | _ => exact p.elim
  | dct kvs =>
    obtain ⟨a, vs, rfl, m, r⟩ := vy
    dsimp only at p
    split at p
    · rename_i b hb
      split at hb
      · rename_i ky hk
        cases hb
        have := keyD_vw vx hk
        subst this
        exact .inr (.inr ⟨a, valV vs ky, rfl, .inl ⟨vs, ky, m, rfl, rfl⟩, by rw [valV_has r]; exact p.now k .bl⟩)
      · cases hb
    · exact p.elim
  | _ => exact p.elim
theorem od_notIn : OpD K (rOr (rIn K true) (rOr rNotSgn (rInDct true))) oNotIn := fun w x y dx dy Q E k vx vy p => by
  unfold oNotIn inD at p
  cases dy with
  | lst ys =>
    obtain ⟨a, vs, rfl, m, r⟩ := vy
    dsimp only at p
    split at p
    · rename_i b hb
      split at hb
      · rename_i v us h1 h2
        cases hb
        obtain ⟨rfl, e1⟩ := fl_vw vx h1
        obtain ⟨rfl, e2⟩ := fls_rep r h2
        exact .inl ⟨a, _, rfl, .inl (SqL.of m), e1, e2, p.now k .bl⟩
      · cases hb
    · exact p.elim
  | tup ys =>
    obtain ⟨a, vs, rfl, m, r⟩ := vy
    dsimp only at p
    split at p
    · rename_i b hb
      split at hb
      · rename_i v us h1 h2
        cases hb
        obtain ⟨rfl, e1⟩ := fl_vw vx h1
        obtain ⟨rfl, e2⟩ := fls_rep r h2
        exact .inl ⟨a, _, rfl, .inr m, e1, e2, p.now k .bl⟩
      · cases hb
    · exact p.elim
  | str z =>
    obtain rfl := vy
    cases dx with
    | str a =>
      obtain rfl := vx
      dsimp only at p
      split at p
      · rename_i b hb
        split at hb
        · rename_i c hc
          cases hb
          obtain ⟨cs⟩ := a
          subst hc
          exact .inr (.inl ⟨c, z, rfl, rfl, p.now k .bl⟩)
        · cases hb
      · exact p.elim
    | _ => exact p.elim
  | dct kvs =>
    obtain ⟨a, vs, rfl, m, r⟩ := vy
    dsimp only at p
    split at p
    · rename_i b hb
      split at hb
      · rename_i ky hk
        cases hb
        have := keyD_vw vx hk
        subst this
        exact .inr (.inr ⟨a, valV vs ky, rfl, .inl ⟨vs, ky, m, rfl, rfl⟩, by rw [valV_has r]; exact p.now k .bl⟩)
      · cases hb
    · exact p.elim
  | _ => exact p.elim
theorem pr_in {a b : Expr} {ma mb : EM} {pos : Pos} (ha : PB P wd K mg base k N sc W a ma) (hb : PB P wd K mg base k N sc W b mb) (hm : behindInMarks .In b = false := by first | exact nomark _ | rfl) : PR P wd K mg base k N sc W (.Compare a [.In] [b] pos) (eOp oIn ma mb) :=
  pr_cmp (fun X g => OpR.or' (by have := op_in_seq (X := X); rw [g.kk] at this; exact this) (OpR.or' op_in_sign (op_inDct (by have := g.room.un; omega)))) od_in ha hb hm
theorem pt_in {a b : Expr} {ma mb : EM} {pos : Pos} (ha : PB P wd K mg base k N sc W a ma) (hb : PB P wd K mg base k N sc W b mb) (hm : behindInMarks .In b = false := by first | exact nomark _ | rfl) : PTt P wd K mg base k N sc W (.Compare a [.In] [b] pos) (eOp oIn ma mb) :=
  pt_cmp' (fun X g => OpR.or' (by have := op_in_seq (X := X); rw [g.kk] at this; exact this) (OpR.or' op_in_sign (op_inDct (by have := g.room.un; omega)))) od_in ha hb hm
theorem pr_notin {a b : Expr} {ma mb : EM} {pos : Pos} (ha : PB P wd K mg base k N sc W a ma) (hb : PB P wd K mg base k N sc W b mb) (hm : behindInMarks .NotIn b = false := by first | exact nomark _ | rfl) : PR P wd K mg base k N sc W (.Compare a [.NotIn] [b] pos) (eOp oNotIn ma mb) :=
  pr_cmp (fun X g => OpR.or' (by have := op_notIn_seq (X := X); rw [g.kk] at this; exact this) (OpR.or' op_notIn_sign (op_notInDct (by have := g.room.un; omega)))) od_notIn ha hb hm
theorem pt_notin {a b : Expr} {ma mb : EM} {pos : Pos} (ha : PB P wd K mg base k N sc W a ma) (hb : PB P wd K mg base k N sc W b mb) (hm : behindInMarks .NotIn b = false := by first | exact nomark _ | rfl) : PTt P wd K mg base k N sc W (.Compare a [.NotIn] [b] pos) (eOp oNotIn ma mb) :=
  pt_cmp' (fun X g => OpR.or' (by have := op_notIn_seq (X := X); rw [g.kk] at this; exact this) (OpR.or' op_notIn_sign (op_notInDct (by have := g.room.un; omega)))) od_notIn ha hb hm
end
end DL
namespace DL
open PySem L2
section
variable {P : Program} {wd : World} {K : PySem.W.Frag} {mg : Str → Option Value} {base : Heap} {k : Nat} {N : List Str} {sc : SC} {W : WX}
/-! ### text times int -/
def repS (x : Str) (n : Int) : Str := if n < 1 then Str.empty else if (n == 1 || x.length == 0) = true then x else ⟨(List.replicate n.toNat x.cps).foldl (· ++ ·) #[]⟩
theorem rep_size (a : Array Nat) : ∀ (n : Nat) (acc : Array Nat), ((List.replicate n a).foldl (· ++ ·) acc).size = acc.size + n * a.size
  | 0, acc => by simp
  | n + 1, acc => by
    rw [List.replicate_succ, List.foldl_cons, rep_size a n, Array.size_append, Nat.succ_mul]; omega
theorem rep_toList (a : Array Nat) : ∀ (n : Nat) (acc : Array Nat), ((List.replicate n a).foldl (· ++ ·) acc).toList = acc.toList ++ (List.replicate n a.toList).flatten
  | 0, acc => by simp
  | n + 1, acc => by
    rw [List.replicate_succ, List.foldl_cons, rep_toList a n, Array.toList_append, List.replicate_succ, List.flatten_cons, List.append_assoc]
/-- its signs -/
theorem repS_toList (x : Str) (n : Int) : (repS x n).cps.toList = (List.replicate n.toNat x.cps.toList).flatten := by
  unfold repS
  split
  · have : n.toNat = 0 := by omega
    rw [this]; rfl
  · split
    · rename_i h
      simp at h
      rcases h with h | h
      · subst h; simp
      · have : x.cps.toList = [] := List.eq_nil_of_length_eq_zero (by simpa [Str.length] using h)
        rw [this]; simp
    · rw [rep_toList]; rfl
def rMulS : R2 := fun x y H Q => ∃ z n, x = .str z ∧ y = .int n ∧ n < 16777216 ∧ -16777216 < n ∧ z.length * n.toNat ≤ sizeLine ∧ Q (.str (repS z n)) H
theorem op_mulS {X : Cx} : OpR X (binaryOp .Mult) rMulS := by
  intro pins s σ H x y u v Q I rx ry h
  obtain ⟨z, n, rfl, rfl, h1, h2, h3, q⟩ := h
  obtain ⟨t, rfl⟩ := rx
  obtain ⟨t', rfl⟩ := ry
  have tl : PySem.Builtin.Str.tooLong (z.length * n.toNat) = false := by
    show decide _ = false
    exact decide_eq_false (Nat.not_lt.mpr h3)
  refine PySem.P.mul_str ?_ (fun a b => ?_) (fun a b => tl) ?_
  · have a : ¬ n < -(2 ^ 63 : Int) := by omega
    have b : ¬ n ≥ 2 ^ 63 := by omega
    rw [decide_eq_false a, decide_eq_false b]; rfl
  · have hn : 2 ≤ n := by
      simp at b; omega
    have hz : (z.length : Int) * n ≤ 16777216 := by
      have h3' : z.length * n.toNat ≤ 16777216 := by rw [← sizeLine_eq]; exact h3
      have e : ((z.length * n.toNat : Nat) : Int) = (z.length : Int) * n := by rw [Int.natCast_mul, Int.toNat_of_nonneg (by omega)]
      omega
    have : (z.length : Int) ≤ (2 ^ 63 - 1) / n := by
      rw [Int.le_ediv_iff_mul_le (by omega)]; omega
    omega
  · unfold repS at q
    by_cases a : n < 1
    · rw [if_pos a] at q ⊢
      exact ⟨by decide, ⟨.str _, H, I.tok _, ⟨_, rfl⟩, q⟩⟩
    · rw [if_neg a] at q ⊢
      by_cases b : (n == 1 || z.length == 0) = true
      · rw [if_pos b] at q ⊢
        exact ⟨.str _, H, I, ⟨_, rfl⟩, q⟩
      · rw [if_neg b] at q ⊢
        refine ⟨?_, ⟨.str _, H, I.tok _, ⟨_, rfl⟩, q⟩⟩
        show ((List.replicate n.toNat z.cps).foldl (· ++ ·) #[]).size ≤ _
        rw [rep_size]
        have e : z.cps.size = z.length := rfl
        rw [e, Nat.mul_comm]
        simpa using h3
def oMulX : D → D → Store → ER
  | .int i, .int j, st => if (-18446744073709551616 < i ∧ i < 18446744073709551616) ∨ (-18446744073709551616 < j ∧ j < 18446744073709551616) then .ok (.int (i * j)) st else .no
  | .str x, .int n, st => if n < 16777216 ∧ -16777216 < n ∧ x.length * n.toNat ≤ 16777216 then .ok (.str (repS x n)) st else .no
  | .lst xs, .int n, st => if n < 16777216 ∧ -16777216 < n ∧ xs.length * n.toNat ≤ 16777216 then .ok (.lst (List.replicate n.toNat xs).flatten) st else .no
  | _, _, _ => .no
theorem repL_flat {w : Wd} {vs : List V} {xs : List D} (r : RepL K w vs xs) : ∀ n : Nat, RepL K w (List.replicate n vs).flatten (List.replicate n xs).flatten
  | 0 => .nil
  | n + 1 => by rw [List.replicate_succ, List.replicate_succ, List.flatten_cons, List.flatten_cons]; exact r.append (repL_flat r n)
theorem pr_mulx {a b : Expr} {ma mb : EM} {pos : Pos} (ha : PB P wd K mg base k N sc W a ma) (hb : PB P wd K mg base k N sc W b mb) : PR P wd K mg base k N sc W (.BinOp a .Mult b pos) (eOp oMulX ma mb) :=
  pr_op (fun X g => OpR.or' op_mul (OpR.or' op_mulS op_rep)) (fun w x y dx dy Q E k vx vy p => by
    cases dx <;> cases dy <;> try exact p.elim
    case int.int i j => obtain rfl := vx; obtain rfl := vy; obtain ⟨h, p⟩ := PostE.ite p; exact .inl ⟨i, j, rfl, rfl, h, p.now k .int⟩
    case str.int x n => obtain rfl := vx; obtain rfl := vy; obtain ⟨h, p⟩ := PostE.ite p; exact .inr (.inl ⟨x, n, rfl, rfl, h.1, h.2.1, by rw [sizeLine_eq]; exact h.2.2, p.now k .str⟩)
    case lst.int xs n =>
      obtain ⟨p1, vs, rfl, h1, r1⟩ := vx; obtain rfl := vy; obtain ⟨h, p⟩ := PostE.ite p
      exact .inr (.inr ⟨p1, n, vs, rfl, rfl, h1, by omega, by omega, by rw [sizeLine_eq, r1.1]; exact h.2.2, fun c hc => p.lst rfl k (repL_flat r1 _) c hc⟩)) ha hb

/-! ### minus -/
def eNeg (m : EM) : EM := fun Γ st => (m Γ st).bind fun d s => match d with | .int i => .ok (.int (-i)) s | _ => .no
theorem pr_neg {a : Expr} {ma : EM} {pos : Pos} (h : PR P wd K mg base k N sc W a ma) : PR P wd K mg base k N sc W (.UnaryOp .USub a pos) (eNeg ma) := by
  obtain ⟨t, p, r⟩ := h
  refine ⟨_, fun X g => pe_un un_neg (p X g), ?_⟩
  intro H0 w Γ σ ok f Q q
  refine r.use ok f (P := fun w r => PostE K w r Q (at_ W σ)) (fun _ _ e k p => p.shift e k) (fun _ _ p => p) (fun p => p) q fun d v w1 e1 k1 f1 r p1 => ?_
  cases r with
  | @int i => exact ⟨i, rfl, p1.now k1 .int⟩
  | _ => exact p1.elim

/-! ### isinstance -/
def tyN : D → Option String
  | .non => some "NoneType"
  | .bl _ => some "bool"
  | .int _ => some "int"
  | .str _ => some "str"
  | .lst _ => some "list"
  | .tup _ => some "tuple"
  | .dct _ => some "dict"
  | _ => none
theorem ty_vw {w : Wd} {v : V} {d : D} {T : String} (vw : Vw K w v d) (h : tyN d = some T) : TyX K w.H v (.type T) := by
  cases d with
  | non => cases h; obtain rfl := vw; exact .base .non
  | bl b => cases h; obtain rfl := vw; exact .base (.bl _)
  | int b => cases h; obtain rfl := vw; exact .base (.int _)
  | str b => cases h; obtain rfl := vw; exact .base (.str _)
  | lst xs => cases h; obtain ⟨a, vs, rfl, m, _⟩ := vw; exact .base (.lst m)
  | tup xs =>
    cases h; obtain ⟨a, vs, rfl, m, _⟩ := vw
    rcases m with (m | ⟨o, m⟩) | ⟨o, its, n, m, c, _⟩
    · exact .base (.tup m)
    · exact .fTuple m
    · exact .kTuple m c
  | dct xs =>
    cases h; obtain ⟨a, vs, rfl, m, _⟩ := vw
    rcases m with m | ⟨o, m⟩
    · exact .base (.dK m)
    · exact .fDict m
  | _ => cases h
def bIsi : List D → Store → ER
  | [x, .ty U], st => match tyN x with
    | some T => match kitB T U with
      | some b => .ok (.bl b) st
      | none => .no
    | none => .no
  | _, _ => .no
theorem cd_isi : CallD K (rIsi K) bIsi := fun w vs ds Q E k v p => by
  unfold bIsi at p
  split at p
  · rename_i x U
    obtain ⟨a, c, rfl, va, vc⟩ := v.two
    obtain rfl := vc
    split at p
    · rename_i T hT
      split at p
      · rename_i b hb
        exact ⟨a, _, _, _, b, rfl, .ty U, ty_vw va hT, kit_ty hb, p.now k .bl⟩
      · exact p.elim
    · exact p.elim
  · exact p.elim
theorem pr_isi {e1 e2 : Expr} {ms : EM} {p pos : Pos} (hm : mg "isinstance" = none) (ha : PAb P wd K mg base k N sc W [e1, e2] ms) (hg : sc.s.names.lookup ("isinstance" : Str) = some .globalImplicit := by rfl) (he : ∀ env, starEach [e1, e2] env = (false, eval e1 env) :: starEach [e2] env := by intro _; rfl)
    (hpl : ∀ env, (backTo pos (starEach [e2] env)).any (·.1) = false := by intro _; rfl) :
    PR P wd K mg base k N sc W (.Call (.Name "isinstance" p) [e1, e2] [] pos) (eB bIsi ms) :=
  pr_B (id := "isinstance") (fun X g => by have := call_isi (X := X); rw [g.kk] at this; exact this) cd_isi hm (by decide +kernel) ha hg (by decide) (by decide) he hpl
/-- a built-in type by its name -/
theorem pr_ty {x : Str} {T : String} {pos : Pos} (hm : mg x = none) (hv : bootBuiltins x = some (.type T) := by decide +kernel) (hg : sc.s.names.lookup x = some .globalImplicit := by rfl) (hn : x ≠ "__name__" := by decide) (hdb : (x == ("__debug__" : Str)) = false := by decide) :
    PR P wd K mg base k N sc W (.Name x pos) (eC (.ty T)) :=
  ⟨_, fun X g => pe_bltn (v := .ty T) (by unfold Gl PySem.Env.kindOf; rw [g.scp]; exact hg) (by rw [g.mg]; exact hm) hv rfl hn hdb, rt_c fun _ => .ty⟩

/-! ### a text is walked -/
def sgn (c : Nat) : Str := ⟨#[c]⟩
def sgns (x : Str) : List D := x.cps.toList.map fun c => .str (sgn c)
theorem itr_str {w : Wd} {x : Str} : Wlk K w (Its x) (sgns x) := fun i w1 e k => by
  refine ⟨fun d hd => ?_, fun hn => ?_⟩
  · unfold sgns at hd
    rw [List.getElem?_map] at hd
    cases q : x.cps.toList[i]? with
    | none => rw [q] at hd; cases hd
    | some c =>
      rw [q] at hd; cases hd
      have hl := getElem?_lt q
      refine ⟨show i < x.cps.size by simpa using hl, fun v H2 y => ⟨w1, y.1.symm, rfl, Evo.refl w1, k, ?_⟩⟩
      obtain ⟨c', h1, rfl⟩ := y.2
      rw [← Array.getElem?_toList, q] at h1
      cases h1
      exact .str
  · have := List.getElem?_eq_none_iff.mp hn
    show x.cps.size ≤ i
    simpa [sgns] using this
def eIterX (m : EM) : EM := fun Γ st => (m Γ st).bind fun d s => match d with
  | .lst xs => .ok (.tup xs) s
  | .tup xs => .ok (.tup xs) s
  | .dct kvs => .ok (.tup (kvs.map fun p => kD p.1)) s
  | .str x => .ok (.tup (sgns x)) s
  | _ => .no
theorem pi_anyx {tg e : Expr} {m : EM} (h : PR P wd K mg base k N sc W e m) : PIt P wd K mg base k N sc W tg e (eIterX m) := by
  obtain ⟨t, p, r⟩ := h
  refine ⟨fun σ H R => iList K t σ H R ∨ iTup K t σ H R ∨ iKeys t σ H R ∨ iStr t σ H R, fun X g => PI.or (by have := pi_list (tg := tg) (p X g); rw [g.kk] at this; exact this) (PI.or (by have := pi_tup (tg := tg) (p X g); rw [g.kk] at this; exact this) (PI.or (pi_keys (p X g)) (pi_str (p X g)))), ?_⟩
  intro H0 w Γ σ ok f R q
  have q' : PostI K w ((m Γ w.st).bind _) R (at_ W σ) := q
  cases e : m Γ w.st with
  | err x st => rw [e] at q'; exact .inl (r H0 w Γ σ ok f _ (by rw [e]; exact q'))
  | no => rw [e] at q'; exact q'.elim
  | ok d st =>
    rw [e] at q'
    cases d with
    | lst xs => exact .inl (r H0 w Γ σ ok f _ (by
        rw [e]
        intro v w' ev k' s rv
        cases rv with
        | lst m l z => exact ⟨_, rfl, ⟨_, SqL.of (k'.ex _ _ m)⟩, q' _ w' ev k' s (itr_list m ⟨l, z⟩)⟩))
    | tup xs => exact .inr (.inl (r H0 w Γ σ ok f _ (by
        rw [e]
        intro v w' ev k' s rv
        cases rv with
        | tup m l z => exact ⟨_, rfl, ⟨_, k'.sqT m⟩, q' _ w' ev k' s (itr_tup m ⟨l, z⟩)⟩)))
    | dct xs => exact .inr (.inr (.inl (r H0 w Γ σ ok f _ (by
        rw [e]
        intro v w' ev k' s rv
        cases rv with
        | dct m l z => exact ⟨_, _, rfl, .inl ⟨_, k'.ex _ _ m, q' _ w' ev k' s (wlk_keys m ⟨l, z⟩)⟩⟩))))
    | str x => exact .inr (.inr (.inr (r H0 w Γ σ ok f _ (by
        rw [e]
        intro v w' ev k' s rv
        cases rv
        exact ⟨x, rfl, q' _ w' ev k' s itr_str⟩))))
    | _ => exact q'.elim

/-! ### items, of dicts too -/
def valD (kvs : List (Key × D)) (k : Key) : Option D := (kvs.find? fun kv => decide (kv.1 = k)).map (·.2)
def oIxX : D → D → Store → ER
  | .lst xs, .int i, st => match atI xs i with | some d => .ok d st | none => .no
  | .tup xs, .int i, st => match atI xs i with | some d => .ok d st | none => .no
  | .str x, .int i, st => if x.length ≤ 16777216 then match atI x.cps.toList i with | some c => .ok (.str (sgn c)) st | none => .no else .no
  | .dct kvs, i, st => match keyD i with
    | some ky => match valD kvs ky with
      | some d => .ok d st
      | none => .no
    | none => .no
  | _, _, _ => .no
theorem repP_val {w : Wd} {vs : List (Key × V)} {xs : List (Key × D)} (r : RepP K w vs xs) (k : Key) {d : D} (h : valD xs k = some d) : ∃ v, valV vs k = some v ∧ Rep K w v d := by
  induction xs generalizing vs with
  | nil => cases h
  | cons p ps ih =>
    obtain ⟨k1, x1⟩ := p
    obtain ⟨v', r', rfl, h1, t⟩ := r.inv
    by_cases z : k1 = k
    · refine ⟨v', valV_pos z, ?_⟩
      have : valD ((k1, x1) :: ps) k = some x1 := by simp [valD, List.find?_cons, z]
      rw [this] at h; cases h; exact h1
    · have e : valD ((k1, x1) :: ps) k = valD ps k := by simp [valD, List.find?_cons, z]
      rw [e] at h
      obtain ⟨v, hv, rv⟩ := ih t h
      exact ⟨v, (valV_neg z).trans hv, rv⟩
def rIxD : R2 := fun x y H Q => ∃ a v, x = .ref a ∧ DGet H a y (some v) ∧ Q v H
theorem pr_ixx {a b : Expr} {ma mb : EM} {pos : Pos} (ha : PB P wd K mg base k N sc W a ma) (hb : PB P wd K mg base k N sc W b mb) (hs : PlainIx b := by exact fun _ _ => rfl) : PR P wd K mg base k N sc W (.Subscript a b pos) (eOp oIxX ma mb) := by
  obtain ⟨ta, pa, ra⟩ := ha
  obtain ⟨tb, pb, rb⟩ := hb
  refine ⟨fun σ H Q => tOp (rIx K) ta tb σ H Q ∨ tDGet ta tb σ H Q, fun X g => PE.or (pe_ix (by have := ix_seq (X := X); rw [g.kk] at this; exact this) (pa X g) (pb X g) hs) (pe_dget (by have := g.room.un; omega) (pa X g) (pb X g) hs), ?_⟩
  have one : ∀ (H0 : Hp) (w : Wd) (Γ : DEnv) (σ : L2.St), Ok K w → Fr K H0 w Γ σ → ∀ Q : VK, PostE K w (eOp oIx ma mb Γ w.st) Q (at_ W σ) → tOp (rIx K) ta tb σ w.H Q := rt_op od_ix ra rb
  have two : ∀ (H0 : Hp) (w : Wd) (Γ : DEnv) (σ : L2.St), Ok K w → Fr K H0 w Γ σ → ∀ Q : VK, PostE K w (eOp (fun x i st => match x with | .dct kvs => (match keyD i with | some ky => (match valD kvs ky with | some d => .ok d st | none => .no) | none => .no) | _ => .no) ma mb Γ w.st) Q (at_ W σ) → tDGet ta tb σ w.H Q := by
    refine rt_op (r := rIxD) (fun w x y dx dy Q E k vx vy p => ?_) ra rb
    split at p
    · rename_i kvs
      obtain ⟨c, vs, rfl, m, r⟩ := vx
      split at p
      · rename_i ky hk
        split at p
        · rename_i d hd
          obtain ⟨v, hv, rv⟩ := repP_val r ky hd
          have := keyD_vw vy hk
          subst this
          exact ⟨c, v, rfl, .inl ⟨vs, ky, m, rfl, hv.symm⟩, p.now k rv⟩
        · exact p.elim
      · exact p.elim
    · exact p.elim
  intro H0 w Γ σ ok f Q q
  have q' : PostE K w ((ma Γ w.st).bind fun x s1 => (mb Γ s1).bind fun y s2 => oIxX (deref s2 x) (deref s2 y) s2) Q (at_ W σ) := q
  cases e1 : ma Γ w.st with
  | no => rw [e1] at q'; exact q'.elim
  | err x st => refine .inl (one H0 w Γ σ ok f Q ?_); unfold eOp; rw [e1]; rw [e1] at q'; exact q'
  | ok x s1 =>
    rw [e1] at q'
    have q2 : PostE K w ((mb Γ s1).bind fun y s2 => oIxX (deref s2 x) (deref s2 y) s2) Q (at_ W σ) := q'
    cases e2 : mb Γ s1 with
    | no => rw [e2] at q2; exact q2.elim
    | err x st => refine .inl (one H0 w Γ σ ok f Q ?_); unfold eOp; rw [e1, ok_bind, e2]; rw [e2] at q2; exact q2
    | ok y s2 =>
      rw [e2] at q2
      have q3 : PostE K w (oIxX (deref s2 x) (deref s2 y) s2) Q (at_ W σ) := q2
      cases e3 : deref s2 x with
      | dct kvs => refine .inr (two H0 w Γ σ ok f Q ?_); unfold eOp; rw [e1, ok_bind, e2, ok_bind, e3]; rw [e3] at q3; exact q3
      | lst xs => refine .inl (one H0 w Γ σ ok f Q ?_); unfold eOp; rw [e1, ok_bind, e2, ok_bind, e3]; rw [e3] at q3; cases e4 : deref s2 y <;> rw [e4] at q3 <;> exact q3
      | tup xs => refine .inl (one H0 w Γ σ ok f Q ?_); unfold eOp; rw [e1, ok_bind, e2, ok_bind, e3]; rw [e3] at q3; cases e4 : deref s2 y <;> rw [e4] at q3 <;> exact q3
      | str xs => refine .inl (one H0 w Γ σ ok f Q ?_); unfold eOp; rw [e1, ok_bind, e2, ok_bind, e3]; rw [e3] at q3; cases e4 : deref s2 y <;> rw [e4] at q3 <;> exact q3
      | _ => rw [e3] at q3; exact q3.elim
end
end DL
namespace DL
open PySem L2
section
variable {P : Program} {wd : World} {K : PySem.W.Frag} {mg : Str → Option Value} {base : Heap} {k : Nat}
/-- where nothing is asked, nothing is promised -/
abbrev Dbot : DF := fun _ _ => .no
theorem fn_bot {x : Str} {st : Stmt} {ps : List Str} (h : HF K mg x st) (hb : ∀ (kV doc pm : Value) (an : Option Addr) (cdv ct : Value) (us : List Value), us.length = ps.length → bindArgs (PySem.W.fnOf x x (defArgs st) (defBody st) (defScope st) .none kV doc pm an cdv ct) ⟨us, []⟩ = pure (ps.zip us)) : Fn P wd K mg base k x Dbot := by
  obtain ⟨f, fd, F, hm⟩ := h
  refine ⟨f, fd, ps, ⟨fun vs H Q E h => ?_, fun {A outer s H args us vs Q E} _ _ _ _ h => ?_⟩, hm, F.kp, F.binds hb⟩
  · obtain ⟨_, _, _, _, _, p⟩ := h; exact p.elim
  · obtain ⟨_, _, _, _, _, p⟩ := h; exact p.elim
theorem Fn.mono {j : Nat} {x : Str} {F : DF} (h : Fn P wd K mg base j x F) (hj : j ≤ k) : Fn P wd K mg base k x F :=
  let ⟨f, fd, ps, a, b, c, d⟩ := h.ex; ⟨f, fd, ps, a.mono hj, b, c, d⟩
variable {N : List Str} {sc : SC} {W : WX}
theorem sw_cell {elt : Expr} {gs : List Comprehension} {scope : Scope} {pos py : Pos} {y : Str} {l : Nat} {env : PySem.Env} (hy : env.scope.names.lookup y = some .cell) : swapsWithSole [.Name y py] (.ListComp elt gs scope pos) l env = pure false := by
  have e : (env.kindOf y == some .local) = false := by unfold PySem.Env.kindOf; rw [hy]; rfl
  unfold swapsWithSole swapsWith
  simp [e]
/-- a cell of the frame is set to a list comprehension -/
theorem ps_asgC (i : Nat) {x : Str} {elt : Expr} {gs : List Comprehension} {scope : Scope} {m : EM} {pos pos' cpos : Pos} (nd : N.Nodup) (h : PR P wd K mg base k N sc W (.ListComp elt gs scope cpos) m) (hi : N[i]? = some x := by rfl) (hx : sc.s.names.lookup x = some .cell := by rfl) (hf : sc.fn x = true := by rfl)
    (hw : ∀ env, swappedStores [.Name x pos'] (.ListComp elt gs scope cpos) env = pure none := by intro _; rfl) :
    PSt P wd K mg base k N sc W (.Assign [.Name x pos'] (.ListComp elt gs scope cpos) pos) (sAsg i m) := by
  obtain ⟨t, p, r⟩ := h
  refine ⟨tAsg t (gName i), fun X g => ps_asg (p X g) (pg_name (by rw [g.nn]; exact nd) (by rw [g.nn]; exact hi) (by rw [g.scp]; exact .inr hx) ?_) (sw_cell (by rw [g.scp]; exact hx)) (hw X.env), ?_⟩
  · rw [g.fnc]; exact .inl hf
  intro w0 w Γ σ e0 ok f Dn q
  exact r.useS e0 ok f q fun d v w1 e1 k1 f1 r1 x1 p1 => p1 w1 _ e1 (Ext.refl w1) k1 rfl (fr_set f1 r1 i)
end
section
variable {Γ : DEnv} {st : Store} {ma mb mc mi me mo ml mh : EM} {a b : SM} {i j : Nat} {d : D}
@[simp] theorem oMulX_i {x y : Int} (h : (-18446744073709551616 < x ∧ x < 18446744073709551616) ∨ (-18446744073709551616 < y ∧ y < 18446744073709551616)) : oMulX (.int x) (.int y) st = .ok (.int (x * y)) st := if_pos h
@[simp] theorem oMulX_s {x : Str} {n : Int} (h : n < 16777216 ∧ -16777216 < n ∧ x.length * n.toNat ≤ 16777216) : oMulX (.str x) (.int n) st = .ok (.str (repS x n)) st := if_pos h
@[simp] theorem oMulX_l {x : List D} {n : Int} (h : n < 16777216 ∧ -16777216 < n ∧ x.length * n.toNat ≤ 16777216) : oMulX (.lst x) (.int n) st = .ok (.lst (List.replicate n.toNat x).flatten) st := if_pos h
@[simp] theorem oIxX_l {xs : List D} {k : Int} : oIxX (.lst xs) (.int k) st = (match L2.atI xs k with | some d => .ok d st | none => .no) := rfl
@[simp] theorem oIxX_t {xs : List D} {k : Int} : oIxX (.tup xs) (.int k) st = (match L2.atI xs k with | some d => .ok d st | none => .no) := rfl
@[simp] theorem oIxX_s {x : Str} {k : Int} (h : x.length ≤ 16777216) : oIxX (.str x) (.int k) st = (match L2.atI x.cps.toList k with | some c => .ok (.str (sgn c)) st | none => .no) := if_pos h
@[simp] theorem oIxX_d {xs : List (Key × D)} : oIxX (.dct xs) d st = (match keyD d with | some ky => (match valD xs ky with | some d => .ok d st | none => .no) | none => .no) := rfl
@[simp] theorem eIterX_ap : eIterX ma Γ st = (ma Γ st).bind fun d s => match d with
  | .lst xs => .ok (.tup xs) s
  | .tup xs => .ok (.tup xs) s
  | .dct kvs => .ok (.tup (kvs.map fun p => kD p.1)) s
  | .str x => .ok (.tup (sgns x)) s
  | _ => .no := rfl
@[simp] theorem eNeg_ap : eNeg ma Γ st = (ma Γ st).bind fun d s => match d with | .int i => .ok (.int (-i)) s | _ => .no := rfl
@[simp] theorem eDnew_ap : eDnew Γ st = .ok (.dct []) st := rfl
@[simp] theorem bIsi_ap {U : String} : bIsi [d, .ty U] st = (match tyN d with
    | some T => match kitB T U with
      | some b => .ok (.bl b) st
      | none => .no
    | none => .no) := rfl
@[simp] theorem bTuple_l {xs : List D} : bTuple [.lst xs] st = .ok (.tup xs) st := rfl
@[simp] theorem bAll_l {xs : List D} : bAll [.lst xs] st = (match blsD xs with | some bs => .ok (.bl (bs.all id)) st | none => .no) := rfl
@[simp] theorem bAny_l {xs : List D} : bAny [.lst xs] st = (match blsD xs with | some bs => .ok (.bl (bs.any id)) st | none => .no) := rfl
@[simp] theorem bDict_l {xs : List D} : bDict [.lst xs] st = (match pairsD xs with | some ps => .ok (.dct (mergeD [] ps)) st | none => .no) := rfl
@[simp] theorem bRepr_ap : bRepr [d] st = (match d.sh with | some e => if ShOk e then .ok (.str e.shown) st else .no | none => .no) := rfl
@[simp] theorem oIn_ap {x y : D} : oIn x y st = (match inD x y with | some b => .ok (.bl b) st | none => .no) := rfl
@[simp] theorem oNotIn_ap {x y : D} : oNotIn x y st = (match inD x y with | some b => .ok (.bl !b) st | none => .no) := rfl
end
end DL
namespace DL
open PySem L2
/-! ### plain: data that can be shown -/
structure Gd (n L : Nat) (d : D) : Prop where
  ex : ∃ e, d.sh = some e ∧ e.showable = true ∧ e.depth ≤ n ∧ e.shown.length ≤ L
  len : ∀ x, d = .str x → x.length ≤ L
theorem Gd.mono {n L n' L' : Nat} {d : D} (h : Gd n L d) (h1 : n ≤ n') (h2 : L ≤ L') : Gd n' L' d := let ⟨e, a, b, c, q⟩ := h.ex; ⟨⟨e, a, b, Nat.le_trans c h1, Nat.le_trans q h2⟩, fun x e => Nat.le_trans (h.len x e) h2⟩
theorem gd_non : Gd 0 4 .non := ⟨⟨_, rfl, rfl, Nat.le_refl _, by decide +kernel⟩, fun _ e => nomatch e⟩
theorem gd_bl {b : Bool} : Gd 0 5 (.bl b) := ⟨⟨_, rfl, rfl, Nat.le_refl _, by cases b <;> decide +kernel⟩, fun _ e => nomatch e⟩
theorem gd_int {i : Int} (h : i.natAbs.log2 < 1920) : Gd 0 2000 (.int i) := ⟨⟨_, rfl, decide_eq_true h, Nat.le_refl _, Nat.le_trans (PyProof.Rows.int_text_len_1921 h) (by decide)⟩, fun _ e => nomatch e⟩
def Cs (x : Str) : Prop := ∀ c ∈ x.cps.toList, c < 4294967296
instance (x : Str) : Decidable (Cs x) := inferInstanceAs (Decidable (∀ c ∈ x.cps.toList, c < 4294967296))
theorem gd_str {x : Str} {L : Nat} (h : Cs x) (hl : 10 * x.length + 2 ≤ L) : Gd 0 L (.str x) := ⟨⟨_, rfl, rfl, Nat.le_refl _, Nat.le_trans (StrLaws.reprText_len x h) hl⟩, fun y e => by cases e; omega⟩
theorem sum_le {ts : List Str} {L : Nat} (h : ∀ t ∈ ts, t.length ≤ L) : (ts.map (·.length)).sum ≤ ts.length * L := by
  induction ts with
  | nil => simp
  | cons t r ih =>
    have h1 := ih fun x hx => h x (List.mem_cons_of_mem _ hx)
    have h2 := h t List.mem_cons_self
    rw [List.map_cons, List.sum_cons, List.length_cons, Nat.succ_mul]; omega
theorem gd_all {n L : Nat} : ∀ {xs : List D}, (∀ x ∈ xs, Gd n L x) → ∃ es, D.shL xs = some es ∧ es.length = xs.length ∧ PyData.showableAll es = true ∧ PyData.depthAll es ≤ n ∧ (PyData.shownAll es).length = xs.length ∧ ∀ t ∈ PyData.shownAll es, t.length ≤ L
  | [], _ => ⟨[], rfl, rfl, rfl, Nat.zero_le _, rfl, by simp [PyData.shownAll]⟩
  | x :: xs, h => by
    obtain ⟨e, a, b, c, q⟩ := (h x List.mem_cons_self).ex
    obtain ⟨es, a', l', b', c', m', q'⟩ := gd_all fun y hy => h y (List.mem_cons_of_mem _ hy)
    refine ⟨e :: es, by simp [D.shL, a, a'], by simp [l'], by simp [PyData.showableAll, b, b'], by simp only [PyData.depthAll]; omega, by simp [PyData.shownAll, m'], ?_⟩
    intro t ht
    simp only [PyData.shownAll, List.mem_cons] at ht
    rcases ht with rfl | ht
    · exact q
    · exact q' t ht
theorem gd_lst {n L : Nat} {xs : List D} (h : ∀ x ∈ xs, Gd n L x) : Gd (n + 1) (xs.length * (L + 2) + 3) (.lst xs) := by
  obtain ⟨es, a, l, b, c, m, q⟩ := gd_all h
  refine ⟨⟨.list es, by simp [D.sh, a], by simpa [PyData.showable] using b, by simp only [PyData.depth]; omega, ?_⟩, fun _ e => nomatch e⟩
  have h1 := listText_len_le (PyData.shownAll es)
  have h2 := sum_le q
  rw [m] at h1 h2
  simp only [PyData.shown]
  rw [Nat.mul_add]; omega
theorem gd_tup {n L : Nat} {xs : List D} (h : ∀ x ∈ xs, Gd n L x) : Gd (n + 1) (xs.length * (L + 2) + 3) (.tup xs) := by
  obtain ⟨es, a, l, b, c, m, q⟩ := gd_all h
  refine ⟨⟨.tuple es, by simp [D.sh, a], by simpa [PyData.showable] using b, by simp only [PyData.depth]; omega, ?_⟩, fun _ e => nomatch e⟩
  have h1 := tupleText_len_le (PyData.shownAll es)
  have h2 := sum_le q
  rw [m] at h1 h2
  simp only [PyData.shown]
  rw [Nat.mul_add]; omega
theorem sh_key (k : Key) : (kD k).sh = some (kP k) := by cases k <;> rfl
theorem gd_kv {n L : Nat} : ∀ {xs : List (Key × D)}, (∀ p ∈ xs, Gd 0 L (kD p.1) ∧ Gd n L p.2) → ∃ es, D.shP xs = some es ∧ PyData.showableKv es = true ∧ PyData.depthKv es ≤ n ∧ (PyData.shownKv es).length = xs.length ∧ ∀ t ∈ PyData.shownKv es, t.length ≤ 2 * L + 2
  | [], _ => ⟨[], rfl, rfl, Nat.zero_le _, rfl, by simp [PyData.shownKv]⟩
  | (k, x) :: xs, h => by
    obtain ⟨hk, hx⟩ := (h (k, x) List.mem_cons_self)
    obtain ⟨k', ka, kb, kc, kq⟩ := hk.ex
    obtain ⟨e, a, b, c, q⟩ := hx.ex
    obtain ⟨es, a', b', c', m', q'⟩ := gd_kv fun y hy => h y (List.mem_cons_of_mem _ hy)
    rw [sh_key] at ka; cases ka
    have kc : (kP k).depth ≤ 0 := kc
    have kq : (kP k).shown.length ≤ L := kq
    have kb : (kP k).showable = true := kb
    have a0 : D.sh x = some e := a
    refine ⟨(kP k, e) :: es, by simp [D.shP, a0, a'], by simp [PyData.showableKv, kb, b, b'], by simp only [PyData.depthKv]; omega, by simp [PyData.shownKv, m'], ?_⟩
    intro t ht
    simp only [PyData.shownKv, List.mem_cons] at ht
    rcases ht with rfl | ht
    · rw [strLen_append, strLen_append]
      have : (": " : Str).length = 2 := rfl
      omega
    · exact q' t ht
theorem gd_dct {n L : Nat} {xs : List (Key × D)} (h : ∀ p ∈ xs, Gd 0 L (kD p.1) ∧ Gd n L p.2) : Gd (n + 1) (xs.length * (2 * L + 4) + 3) (.dct xs) := by
  obtain ⟨es, a, b, c, m, q⟩ := gd_kv h
  refine ⟨⟨.dict es, by simp [D.sh, a], by simpa [PyData.showable] using b, by simp only [PyData.depth]; omega, ?_⟩, fun _ e => nomatch e⟩
  have h1 := dictText_len_le (PyData.shownKv es)
  have h2 := sum_le q
  rw [m] at h1 h2
  simp only [PyData.shown]
  have e : xs.length * (2 * L + 4) = xs.length * (2 * L + 2) + 2 * xs.length := by rw [show 2 * L + 4 = (2 * L + 2) + 2 from rfl, Nat.mul_add]; omega
  omega
/-- repr of it -/
def shw (d : D) : Str := match d.sh with | some e => e.shown | none => ""
theorem Gd.repr {n L : Nat} {d : D} (h : Gd n L d) (hn : n ≤ 60) (hL : L ≤ 16777216) (st : Store) : bRepr [d] st = .ok (.str (shw d)) st := by
  obtain ⟨e, a, b, c, q⟩ := h.ex
  have : ShOk e := ⟨b, Nat.le_trans c hn, Nat.le_trans q hL⟩
  simp [bRepr, shw, a, this]

/-! ### plain: loops -/
theorem forL_ok {g : GM} {mb : SM} : ∀ {ds : List D} (I : Nat → DEnv → Store → Prop), (∀ (j : Nat) (d : D), ds[j]? = some d → ∀ Γ st, I j Γ st → ∃ Γ1, g d Γ = some Γ1 ∧ ∃ Γ2 st2, mb Γ1 st = .nx Γ2 st2 ∧ I (j + 1) Γ2 st2) →
    ∀ Γ st, I 0 Γ st → ∃ Γ' st', forL g mb ds Γ st = .nx Γ' st' ∧ I ds.length Γ' st'
  | [], I, _, Γ, st, i => ⟨Γ, st, rfl, i⟩
  | d :: ds, I, h, Γ, st, i => by
    obtain ⟨Γ1, h1, Γ2, st2, h2, i2⟩ := h 0 d rfl Γ st i
    obtain ⟨Γ', st', h3, i3⟩ := forL_ok (ds := ds) (fun j => I (j + 1)) (fun j d hd => h (j + 1) d hd) Γ2 st2 i2
    refine ⟨Γ', st', ?_, i3⟩
    unfold forL
    rw [h1]
    show (match mb Γ1 st with | .nx Γ2 st2 => forL g mb ds Γ2 st2 | .ct Γ2 st2 => forL g mb ds Γ2 st2 | .bk Γ2 st2 => .nx Γ2 st2 | r => r) = _
    rw [h2]; exact h3
/-- every turn gives an item -/
theorem lcL_ok {g : GM} {me : EM} {Γ : DEnv} {E : D → Prop} : ∀ {ds : List D} (I : Nat → Store → Prop), (∀ (j : Nat) (d : D), ds[j]? = some d → ∀ st, I j st → ∃ Γ1, g d Γ = some Γ1 ∧ ∃ x st2, me Γ1 st = .ok x st2 ∧ E x ∧ I (j + 1) st2) →
    ∀ st acc, I 0 st → acc.length + ds.length ≤ 16777216 → ∃ xs st', lcL g eYes me ds Γ st acc = .ok (.lst (acc ++ xs)) st' ∧ I ds.length st' ∧ (∀ x ∈ xs, E x) ∧ xs.length = ds.length
  | [], I, _, st, acc, i, _ => ⟨[], st, by simp [lcL], i, by simp, rfl⟩
  | d :: ds, I, h, st, acc, i, hl => by
    obtain ⟨Γ1, h1, x, st2, h2, e, i2⟩ := h 0 d rfl st i
    obtain ⟨xs, st', h3, i3, e3, l3⟩ := lcL_ok (ds := ds) (fun j => I (j + 1)) (fun j d hd => h (j + 1) d hd) st2 (acc ++ [x]) i2 (by simp at hl ⊢; omega)
    have hlt : acc.length < 16777216 := by simp at hl; omega
    refine ⟨x :: xs, st', ?_, i3, ?_, by simp [l3]⟩
    · unfold lcL
      rw [h1]
      show (match me Γ1 st with | .ok x s2 => (if acc.length < 16777216 then lcL g eYes me ds Γ s2 (acc ++ [x]) else .no) | _ => .no) = _
      rw [h2]
      show (if acc.length < 16777216 then lcL g eYes me ds Γ st2 (acc ++ [x]) else .no) = _
      rw [if_pos hlt, h3]; simp
    · intro y hy
      rcases List.mem_cons.mp hy with rfl | hy
      · exact e
      · exact e3 y hy
/-- a map -/
theorem lcL_map {g : GM} {me : EM} {Γ : DEnv} {f : D → D} {st : Store} : ∀ {ds : List D}, (∀ d ∈ ds, ∃ Γ1, g d Γ = some Γ1 ∧ me Γ1 st = .ok (f d) st) →
    ∀ acc, acc.length + ds.length ≤ 16777216 → lcL g eYes me ds Γ st acc = .ok (.lst (acc ++ ds.map f)) st
  | [], _, acc, _ => by simp [lcL]
  | d :: ds, h, acc, hl => by
    obtain ⟨Γ1, h1, h2⟩ := h d List.mem_cons_self
    have hlt : acc.length < 16777216 := by simp at hl; omega
    unfold lcL
    rw [h1]
    show (match me Γ1 st with | .ok x s2 => (if acc.length < 16777216 then lcL g eYes me ds Γ s2 (acc ++ [x]) else .no) | _ => .no) = _
    rw [h2]
    show (if acc.length < 16777216 then lcL g eYes me ds Γ st (acc ++ [f d]) else .no) = _
    rw [if_pos hlt, lcL_map (ds := ds) (fun y hy => h y (List.mem_cons_of_mem _ hy)) (acc ++ [f d]) (by simp at hl ⊢; omega)]
    simp
theorem rng_length (lo c : Int) (n : Nat) : (rng lo c n).length = n := rng_len lo c n
theorem eRng1_n {ma : EM} {Γ : DEnv} {st s : Store} {n : Nat} (h : ma Γ st = .ok (.tup [.int n]) s) (hn : n < 4294967296) : eRng1 ma Γ st = .ok (.tup (rng 0 1 n)) s := by
  unfold eRng1
  rw [h, ok_bind]
  dsimp only
  rw [if_pos (by omega), Int.toNat_natCast]
theorem eRng1_i {ma : EM} {Γ : DEnv} {st s : Store} {n : Int} (h : ma Γ st = .ok (.tup [.int n]) s) (hn : -4294967296 < n ∧ n < 4294967296) : eRng1 ma Γ st = .ok (.tup (rng 0 1 n.toNat)) s := by
  unfold eRng1
  rw [h, ok_bind]
  dsimp only
  rw [if_pos (by omega)]
theorem eLc_of {vs : List Nat} {mi mt me : EM} {g : GM} {Γ : DEnv} {st s : Store} {ds : List D} (h : mi Γ st = .ok (.tup ds) s) : eLc vs mi g mt me Γ st = lcL g mt me ds (wipeE Γ vs) s [] := by
  unfold eLc
  rw [h]; rfl
theorem sFor_of {mi : EM} {g : GM} {b : SM} {Γ : DEnv} {st s : Store} {ds : List D} (h : mi Γ st = .ok (.tup ds) s) : sFor mi g b Γ st = forL g b ds Γ s := by
  unfold sFor
  rw [h]; rfl
theorem rng_at {lo c : Int} {n j : Nat} {d : D} (h : (rng lo c n)[j]? = some d) : j < n ∧ d = .int (lo + (j : Int) * c) := by
  have hl := getElem?_lt h
  rw [rng_len] at hl
  rw [rng_get hl] at h; cases h; exact ⟨hl, rfl⟩

/-! ### plain: texts -/
theorem bls_map (f : D → Bool) : ∀ l : List D, blsD (l.map fun d => D.bl (f d)) = some (l.map f)
  | [] => rfl
  | d :: l => by simp [blsD, bls_map f l]
theorem strs_of : ∀ {xs : List D}, (∀ x ∈ xs, ∃ y, x = .str y) → ∃ ys, strsOf xs = some ys ∧ xs = ys.map .str
  | [], _ => ⟨[], rfl, rfl⟩
  | x :: xs, h => by
    obtain ⟨y, rfl⟩ := h x List.mem_cons_self
    obtain ⟨ys, h1, h2⟩ := strs_of fun z hz => h z (List.mem_cons_of_mem _ hz)
    exact ⟨y :: ys, by simp [strsOf, h1], by simp [h2]⟩
theorem joinL_nil : ∀ ps : List (List Nat), TL.joinL [] ps = ps.flatten
  | [] => rfl
  | [p] => by simp [TL.joinL]
  | p :: q :: r => by
    show p ++ ([] ++ TL.joinL [] (q :: r)) = _
    rw [joinL_nil (q :: r)]; simp
theorem join0 (ys : List Str) : (Txt.join ("" : Str) ys).cps.toList = (ys.map fun y => y.cps.toList).flatten := by
  rw [TL.join_eq]
  have := TL.tl_join ("" : Str) ys
  show TL.tl _ = _
  rw [this]
  exact joinL_nil _
theorem len_toList (x : Str) : x.length = x.cps.toList.length := TL.len_tl x
theorem Cs.append {x y : Str} (h : Cs x) (h' : Cs y) : Cs (x ++ y) := fun c hc => by
  have e : (x ++ y).cps.toList = x.cps.toList ++ y.cps.toList := TL.tl_append x y
  rw [e, List.mem_append] at hc
  exact hc.elim (h c) (h' c)
theorem Cs.cut {x : Str} (h : Cs x) (lo hi : Option Int) : Cs (cutS x lo hi) := fun c hc => by
  unfold cutS at hc
  simp only at hc
  exact h c (List.mem_of_mem_drop (List.mem_of_mem_take hc))
theorem cut_len (x : Str) (lo hi : Option Int) : (cutS x lo hi).length ≤ x.length := by
  rw [len_toList, len_toList]
  unfold cutS
  simp only [List.length_take, List.length_drop]
  omega
theorem Cs.rep {x : Str} (h : Cs x) (n : Int) : Cs (repS x n) := fun c hc => by
  rw [repS_toList] at hc
  obtain ⟨l, hl, hc⟩ := List.mem_flatten.mp hc
  have := List.eq_of_mem_replicate hl
  subst this
  exact h c hc
theorem rep_len (x : Str) (n : Int) : (repS x n).length = n.toNat * x.length := by
  rw [len_toList, repS_toList, len_toList, List.length_flatten]; simp
theorem Cs.sgn {c : Nat} (h : c < 4294967296) : Cs (sgn c) := fun d hd => by
  have : d = c := by simpa [DL.sgn] using hd
  omega
end DL
namespace DL
open PySem PySem.Spec PyProof.Rows L2
/-! ### the end of a law's row -/
theorem law_callG {P : Program} {w : World} {K : PySem.W.Frag} {mg mb mm : Str → Option Value} {k : Nat} {fa a : Addr} {fd : FuncData} {x : Str} {sp : Sp} {s₁ : Shared} {vs : List Value} {ns : List Int}
    (KX : K.In s₁.heap) (hns : s₁.heap.Ns mainGlobals mg) (hsm : s₁.heap.Ns sysModules mm) (hb : s₁.heap.Ns builtinsNs mb) (hbb : ∀ x : Str, x ≠ "__name__" → mb x = bootBuiltins x) (hlim : s₁.heap.NoLimit) (hg : s₁.gens = #[])
    (ha : s₁.heap.get? a = some { cls := .type "list", data := .seq vs.toArray }) (hi : IntsAre vs ns) (hl : ns.length ≤ sizeLine) (hr : Room k callerA)
    (F : ∀ base : Heap, K.In base → base.Ns mainGlobals mg → FnG P w K mg base k fa fd [x] sp) (hbind : ∀ (s : Shared) (u : Value), BindsTo s fd ⟨[u], []⟩ [(x, u)])
    (hsp : ∀ H : Hp, Only H → SqL K H a (ns.map V.int) → sp [.ref a] H (fun v _ => v = .bl true) fun _ _ _ => False) :
    codeAny (model P w) callerA (.call (.ref fa) ⟨[.ref a], []⟩) (fun r s' => r = .ok (.ret (.bool true)) ∧ OldK s₁.heap s'.heap ∧ s'.os = s₁.os ∧ AllBare s'.gens) s₁ := by
  have rv := vals_ints hi
  have lenV := hi.length
  have core : ∀ H : Hp, Only H → SqL K H a (ns.map V.int) → HOk P w H s₁.heap → (∀ b, H b ≠ none → b = a) → (H a ≠ none → K.lookup a = none) →
      codeAny (model P w) callerA (.call (.ref fa) ⟨[.ref a], []⟩) (fun r s' => r = .ok (.ret (.bool true)) ∧ OldK s₁.heap s'.heap ∧ s'.os = s₁.os ∧ AllBare s'.gens) s₁ := by
    intro H hO hS hok hA hK
    have base_of : ∀ {b : Addr} {o : Obj}, s₁.heap.get? b = some o → H b = none → (hidT s₁.heap H).get? b = some o := fun e n => hidT_get e n
    have noA : ∀ {b : Addr} {o : Obj} {es : Array DictEntry} {ep : Nat}, s₁.heap.get? b = some o → o.data = .dict es ep → H b = none := fun {b o es ep} e d => by
      cases q : H b with
      | none => rfl
      | some u =>
        have e' : b = a := hA b (by rw [q]; simp)
        subst e'
        rw [ha] at e; cases e
        have d' : Data.seq vs.toArray _ = Data.dict es ep := d
        cases d'
    have nsK : ∀ {b : Addr} {m : Str → Option Value}, s₁.heap.Ns b m → (hidT s₁.heap H).Ns b m := fun {b m} ⟨o, es, ep, e, d, r⟩ => ⟨o, es, ep, base_of e (noA e d), d, r⟩
    have hKb : K.In (hidT s₁.heap H) := fun b o e => base_of (KX b o e) (by
      cases q : H b with
      | none => rfl
      | some u =>
        have e' : b = a := hA b (by rw [q]; simp)
        subst e'
        rw [hK (by rw [q]; simp)] at e; cases e)
    have hM : Mod K mg (hidT s₁.heap H) := ⟨hKb, nsK hns, ⟨mb, nsK hb, hbb⟩, let ⟨mc, h1, h2⟩ := hlim; ⟨mc, nsK h1, h2⟩⟩
    have e0 : Env0 P w K mg (hidT s₁.heap H) callerA [] s₁ H := ⟨rfl, hM, fun b o e => of_hidT e, Nat.le_of_eq (hidT_size _ _), trivial, fun b hb => absurd (show b ∈ ([] : List Addr) from hb) (by simp), hok, .of_eq hg⟩
    have tp : Tp callerA (hidT s₁.heap H) := ⟨rfl, let ⟨o, _, _, e, _⟩ := nsK hsm; ⟨o, e⟩⟩
    refine codeAny_mono ((F _ hKb (nsK hns)).go (args := ⟨[.ref a], []⟩) (us := [.ref a]) (vs := [.ref a]) ⟨hr, tp⟩ e0 (hbind s₁ (.ref a)) (.cons rfl .nil) (hsp H hO hS)) fun r s' h => ?_
    cases r with
    | error e => obtain ⟨_, _, _, _, _, _, _, _, _, _, _, _, _, _, _, _, z⟩ := h
    | ok fl =>
      cases fl with
      | next => exact False.elim h
      | brk => exact False.elim h
      | cont => exact False.elim h
      | ret u =>
        obtain ⟨v, H', os, bare, un, hok', r', q⟩ := h
        have q' : v = .bl true := q
        subst q'
        obtain rfl : u = Value.bool true := r'
        refine ⟨rfl, OldK.of_keep fun b o e => ?_, os, bare⟩
        cases q : H b with
        | none => exact un.keep b o e q (by intro z; exact absurd (show b ∈ ([] : List Addr) from z) (by simp)) (by simp)
        | some u =>
          rcases hO b with z | ⟨ob, xs, z⟩
          · rw [q] at z; cases z
          · have z2 := un.frzs b ob _ z
            obtain ⟨e1, _⟩ := hok b _ z
            obtain ⟨e2, _⟩ := hok' b _ z2
            rw [e] at e1; cases e1
            exact e2
  cases hk : K.lookup a with
  | some o =>
    have e := KX a o hk
    rw [ha] at e
    cases e
    refine core (fun _ => none) (fun _ => .inl rfl) (.inr ⟨_, vs.toArray, _, hk, rfl, rfl, rfl, by rw [List.size_toArray, lenV]; exact hl, by simpa using rv⟩) (fun b u z => by have z' : (none : Option HO) = some u := z; cases z') (fun b z => absurd rfl z) fun z => absurd rfl z
  | none =>
    refine core (fun b => if b = a then some (.frz { cls := .type "list", data := .seq vs.toArray } (.lst (ns.map V.int))) else none) (fun b => ?_) (.inl (.inr ⟨{ cls := .type "list", data := .seq vs.toArray }, if_pos rfl⟩)) (fun b u z => ?_) (fun b z => ?_) fun _ => hk
    · by_cases hb : b = a
      · exact .inr ⟨_, _, if_pos hb⟩
      · exact .inl (if_neg hb)
    · by_cases hb : b = a
      · have z' := (if_pos hb).symm.trans z
        cases z'
        subst hb
        exact ⟨ha, by rw [List.length_map]; exact hl, vs, _, rv, ha⟩
      · have z' := (if_neg hb).symm.trans z
        cases z'
    · by_cases hb : b = a
      · exact hb
      · exact absurd (if_neg hb) z
/-- what is asked of a law -/
def spLaw (K : PySem.W.Frag) : Sp := fun vs H Q _ => ∃ (a : Addr) (ns : List Int), vs = [.ref a] ∧ Only H ∧ SqL K H a (ns.map V.int) ∧ ns.length ≤ 63 ∧ ∀ H', Q (.bl true) H'
theorem walk {l : PySem.W.OpenLaw} {k : Nat} {q : Program} {loose : List Str} {XP : (Str → Option Value) → Heap → Prop} {YP : World → Heap → Prop} {d : DefRec} {K : Params → PySem.W.Frag} {x : Str}
    (hn : l.most = some 63) (hdf : d.params.defaults = []) (hq : importsNone q = true) (hr : Room k callerA)
    (hY : ∀ (w : World) (h : Heap), YP w h → (K w.params).In h)
    (F : ∀ (w : World) (mg : Str → Option Value) (fa : Addr) (h : Heap), (K w.params).In h → h.Ns mainGlobals mg → mg d.name = some (.ref fa) →
      ∃ fd : FuncData, (∀ (s : Shared) (u : Value), BindsTo s fd ⟨[u], []⟩ [(x, u)]) ∧
        ∀ base : Heap, (K w.params).In base → base.Ns mainGlobals mg → FnG l.prog w (K w.params) mg base k fa fd [x] (spLaw (K w.params))) :
    PySem.W.WalkO q loose XP YP l.row.toRowW d [] (fun f vs => PySem.call f vs) := by
  refine Att.attach_call hn hdf fun w s₀ s₁ mg mb fa o pm cd doc a vs ns G Y ho hd hcd hmg hobj hints hlen hg => ?_
  have KX := hY w _ Y
  obtain ⟨fd, hb, hF⟩ := F w mg fa _ KX G.T.g hmg
  obtain ⟨mm, hsm, _⟩ := (G.T.seer hq).mods
  exact law_callG KX G.T.g hsm G.T.b G.T.builtins G.T.nolimit hg hobj hints (Nat.le_trans hlen (by decide)) hr hF hb fun H hO hS => ⟨a, ns, rfl, hO, hS, hlen, fun _ => rfl⟩
/-- from the plain law -/
theorem law_end {P : Program} {wd : World} {K : PySem.W.Frag} {mg : Str → Option Value} {base : Heap} {k : Nat} {fd : FuncData} {f : Addr} {F : DF} {p : Str} (h : FnG P wd K mg base k f fd [p] (spD K F)) (pl : ∀ ns : List Int, ns.length ≤ 63 → ∃ st', F [.scr ns] [] = .ok (.bl true) st') :
    FnG P wd K mg base k f fd [p] (spLaw K) := h.imp fun vs H Q E q => by
  obtain ⟨a, ns, rfl, hO, hS, hl, q⟩ := q
  obtain ⟨st', e⟩ := pl ns hl
  refine ⟨⟨H, fun _ => 0, [], H⟩, [.scr ns], rfl, ⟨fun _ _ h => h, fun l d h => by simp at h, fun l m h => by simp at h⟩, .cons (.scr hS) .nil, ?_⟩
  rw [e]
  intro v w' _ _ _ r
  cases r
  exact q _
end DL
namespace DL
open PySem L2
/-! ### objects -/
section
variable {X : Cx} {k : Nat} {f C g : Addr} {fd : FuncData} {ps : List Str} {sp : Sp} {W : WX} {pins : List (Addr × Obj)} {σ : L2.St} {H : Hp} {s : Shared} {Q : VK} {us : List Value} {vs : List V}
theorem run_g (F : FnG X.prog X.w X.K X.mg X.base k f fd ps sp) (hr : Room k X.A ∧ Tp X.A X.base) (hb : Binds X.K fd ps []) (tk : Takes X W) (I : Inv X pins σ H s) (r : Vals vs us) (h : sp vs H Q (WE W σ)) : wpAny (model X.prog X.w) X.A (call (.ref f) us) (EP X pins σ Q) X.xe s := by
  have hl : us.length = ps.length := by rw [← r.length]; exact F.len _ _ _ _ h
  have bd := hb s us I.kIn (by rw [List.append_nil]; exact hl)
  rw [List.append_nil] at bd
  exact wpAny_call (call_g (E := WE W) F hr ⟨us, []⟩ bd (passAt tk σ) I r h (fun _ _ z => z) fun _ _ z => z)
theorem run_makeG (M : Mk X.K C f) (F : FnG X.prog X.w X.K X.mg X.base k f fd ps sp) (hr : Room (k + 1) X.A ∧ Tp X.A X.base) (hb : Binds X.K fd ps []) (tk : Takes X W) (I : Inv X pins σ H s) (r : Vals vs us)
    (h : ∀ x dx, H x = none → H dx = none → dx ≠ x → sp (.ref x :: vs) (upd (upd H dx (.own x)) x (.ins C dx [])) (fun v H2 => v = .non ∧ Q (.ref x) H2) (WE W σ)) :
    wpAny (model X.prog X.w) X.A (call (.ref C) us) (EP X pins σ Q) X.xe s := by
  have hq := h (s.heap.objs.size + 1) s.heap.objs.size (I.hok.fresh (Nat.le_succ _)) (I.hok.fresh (Nat.le_refl _)) (Nat.ne_of_lt (Nat.lt_succ_self _))
  have I2 := Inv.made (C := C) I
  have r2 : Vals (V.ref (s.heap.objs.size + 1) :: vs) (Value.ref (s.heap.objs.size + 1) :: us) := .cons rfl r
  have hl : (Value.ref (s.heap.objs.size + 1) :: us).length = ps.length := by
    have e := r2.length
    rw [F.len _ _ _ _ hq] at e
    exact e.symm
  have bd := hb _ (Value.ref (s.heap.objs.size + 1) :: us) I2.kIn (by rw [List.append_nil]; exact hl)
  rw [List.append_nil] at bd
  refine wpAny_call (make_map (f := f) I.kIn M.makes M.init (beq_iff_eq.mp M.fn) (codeAny_mono (F.go (outer := X.stack) (args := ⟨Value.ref (s.heap.objs.size + 1) :: us, []⟩) ⟨hr.1.make C us [], hr.2⟩
    (I2.env0.make C us []) bd r2 hq) fun r s' hq' => ?_))
  cases r with
  | error e => exact passAt tk σ pins _ _ e s' I2 hq'
  | ok fl =>
    cases fl with
    | ret u =>
      obtain ⟨v, H', I3, rv, ev, q3⟩ := I2.after hq'
      subst ev
      exact ⟨rv, ⟨V.ref (s.heap.objs.size + 1), H', I3, rfl, q3⟩⟩
    | next => exact False.elim hq'
    | brk => exact False.elim hq'
    | cont => exact False.elim hq'
theorem getprop_g {p a dx : Addr} {fs : List (Str × V)} {n : Str} {b : Bool} {E' : Value → Shared → Prop} (I : Inv X pins σ H s) (ea : H a = some (.ins C dx fs)) (c : Cls X.K C) (hp : PropOf X.K C n p g)
    (F : FnG X.prog X.w X.K X.mg X.base k g fd ps sp) (hr : Room (k + 1) X.A ∧ Tp X.A X.base) (hb : Binds X.K fd ps []) (h : sp [.ref a] H Q fun _ _ _ => False) :
    wpAny (model X.prog X.w) X.A (getAttr (.ref a) n b) (EP X pins σ Q) E' s := by
  obtain ⟨mA, O, _, _, _, _⟩ := ins_get I.hok ea
  obtain ⟨od, J, _⟩ := O.look
  obtain ⟨rest, hrec⟩ := hp.rec_
  have I1 := I.tok (s.toks + 1)
  have hl : [Value.ref a].length = ps.length := by
    rw [← F.len _ _ _ _ h]; rfl
  have bd := hb { s with toks := s.toks + 1 } [Value.ref a] I1.kIn (by rw [List.append_nil]; exact hl)
  rw [List.append_nil] at bd
  have hc : (PySem.W.clsIn X.K C).isSome = true := by
    obtain ⟨cd, hc, _⟩ := PySem.W.any_some c.hd
    rw [hc]
    rfl
  refine PySem.W.get_bind I.kIn J (PySem.W.plainGet_of (c.get n)).1 (PySem.W.findObj_data hc hp.at_ hp.get hp.tak) (PySem.W.plainGet_of (c.get n)).2 (wpAny_call (PySem.W.prop_get (s := { s with toks := s.toks + 1 }) I.kIn hrec ?_))
  refine codeAny_mono (F.go (A := X.A.in1) (outer := X.stack) (args := ⟨[.ref a], []⟩) (us := [.ref a]) (vs := [.ref a]) ⟨hr.1.in1, hr.2⟩ I1.env0.in1 bd (.cons rfl .nil) h) fun r s' hq => ?_
  cases r with
  | error er => obtain ⟨_, _, _, _, _, _, _, _, _, _, _, _, _, _, _, _, z⟩ := hq
  | ok fl =>
    cases fl with
    | ret u =>
      obtain ⟨v, H', I3, rv, q3⟩ := I1.after hq
      show wpAny _ _ (handedOut u) _ _ _
      rw [PySem.W.handedOut_of (handed_of rv)]
      exact wpAny_pure ⟨v, H', I3, rv, q3⟩
    | next => exact False.elim hq
    | brk => exact False.elim hq
    | cont => exact False.elim hq
end
/-! #### what is known of a class, of its methods -/
structure MethOK (P : Program) (wd : World) (K : PySem.W.Frag) (mg : Str → Option Value) (base : Heap) (k : Nat) (C : String) (m : Str) (F : DF) : Prop where
  c : Cls K (cA K C)
  ex : ∃ (g : Addr) (fd : FuncData) (ps : List Str), FnG P wd K mg base k g fd ps (spD K F) ∧ Meth K (cA K C) m g ∧ Binds K fd ps []
structure PropOK (P : Program) (wd : World) (K : PySem.W.Frag) (mg : Str → Option Value) (base : Heap) (k : Nat) (C : String) (m : Str) (F : DF) : Prop where
  c : Cls K (cA K C)
  ex : ∃ (g p : Addr) (fd : FuncData) (ps : List Str), FnG P wd K mg base k g fd ps (spD K F) ∧ PropOf K (cA K C) m p g ∧ Binds K fd ps []
structure MakeOK (P : Program) (wd : World) (K : PySem.W.Frag) (mg : Str → Option Value) (base : Heap) (k : Nat) (C : String) (F : DF) : Prop where
  at_ : mg (Str.ofString C) = some (.ref (cA K C))
  ex : ∃ (g : Addr) (fd : FuncData) (ps : List Str), FnG P wd K mg base k g fd ps (spD K F) ∧ Mk K (cA K C) g ∧ Binds K fd ps []
structure FldOK (K : PySem.W.Frag) (C : String) (f : Str) : Prop where
  c : Cls K (cA K C)
  n : NoAttr K (cA K C) f
theorem cA_of {K : PySem.W.Frag} {n : String} {C : Addr} (h : PySem.W.nsIn K mainGlobals (Str.ofString n) = some (some (.ref C))) : cA K n = C := by unfold cA; rw [h]
/-- all of a table -/
def AllT (tab : List (String × DF)) (R : String → DF → Prop) : Prop := ∀ p ∈ tab, R p.1 p.2
section
variable {P : Program} {wd : World} {K : PySem.W.Frag} {mg : Str → Option Value} {base : Heap} {k : Nat} {N : List Str} {sc : SC} {W : WX}
/-! #### fields -/
theorem RepP.look {w : Wd} {vs : List (Str × V)} {xs : List (Str × D)} (r : RepP K w vs xs) (f : Str) {d : D} (h : xs.lookup f = some d) : ∃ v, vs.lookup f = some v ∧ Rep K w v d := by
  induction xs generalizing vs with
  | nil => cases h
  | cons p ps ih =>
    obtain ⟨k1, x1⟩ := p
    obtain ⟨v', r', rfl, h1, t⟩ := r.inv
    by_cases z : f == k1
    · simp only [List.lookup, z] at h ⊢
      cases h; exact ⟨v', rfl, h1⟩
    · simp only [List.lookup, z] at h ⊢
      exact ih t h
theorem RepP.look0 {w : Wd} {vs : List (Str × V)} {xs : List (Str × D)} (r : RepP K w vs xs) (f : Str) (h : xs.lookup f = none) : vs.lookup f = none := by
  induction xs generalizing vs with
  | nil => rw [r.inv0]; rfl
  | cons p ps ih =>
    obtain ⟨k1, x1⟩ := p
    obtain ⟨v', r', rfl, h1, t⟩ := r.inv
    by_cases z : f == k1
    · simp only [List.lookup, z] at h; cases h
    · simp only [List.lookup, z] at h ⊢
      exact ih t h
def putFD (f : Str) (v : D) : List (Str × D) → List (Str × D)
  | [] => [(f, v)]
  | (g, x) :: r => if g = f then (g, v) :: r else (g, x) :: putFD f v r
theorem repP_putF {w : Wd} {f : Str} {v : V} {x : D} (h : Rep K w v x) : ∀ {vs : List (Str × V)} {xs : List (Str × D)}, RepP K w vs xs → RepP K w (putF f v vs) (putFD f x xs)
  | vs, [], r => by rw [r.inv0]; exact .cons h .nil
  | vs, (k, y) :: xs, r => by
    obtain ⟨v', r', rfl, h1, t⟩ := r.inv
    unfold putF putFD
    by_cases z : k = f
    · rw [if_pos z, if_pos z]; exact .cons h t
    · rw [if_neg z, if_neg z]; exact .cons h1 (repP_putF h t)
def eFld (cs : List String) (f : Str) (mo : EM) : EM := fun Γ st => (mo Γ st).bind fun o s => match deref s o with
  | .ins C fs => if C ∈ cs then (match fs.lookup f with | some d => .ok d s | none => .no) else .no
  | _ => .no
theorem pr_fld {o : Expr} {f : Str} {mo : EM} {cs : List String} {pos : Pos} (T : ∀ C ∈ cs, FldOK K C f) (ho : PB P wd K mg base k N sc W o mo) (hb : ∀ env, attributeBase o f env (eval o env) = eval o env := by intro _; rfl) : PR P wd K mg base k N sc W (.Attribute o f pos) (eFld cs f mo) := by
  obtain ⟨t, p, r⟩ := ho
  refine ⟨tFld K t f, fun X g => by have := pe_fld (f := f) (pos := pos) (p X g) (hb X.env); rw [g.kk] at this; exact this, ?_⟩
  intro H0 w Γ σ ok f0 Q q
  refine RB.use (P := fun w r => PostE K w r Q (at_ W σ)) r ok f0 (fun _ _ e k p => p.shift e k) (fun _ _ p => p) (fun p => p) q fun d v w1 e1 k1 f1 r1 p1 => ?_
  have vw := r1.vw k1 f1
  revert vw p1
  cases deref w1.st d with
  | ins C fs =>
    intro p1 vw
    obtain ⟨a, dx, vs, rfl, hH, rp⟩ := vw
    dsimp only at p1
    obtain ⟨hc, p1⟩ := PostE.ite p1
    cases hl : fs.lookup f with
    | none => rw [hl] at p1; exact p1.elim
    | some x =>
      rw [hl] at p1
      obtain ⟨v', hv, rv⟩ := rp.look f hl
      exact ⟨a, _, dx, vs, v', rfl, hH, (T C hc).c, (T C hc).n, hv, p1.now k1 rv⟩
  | _ => intro p1 _; exact p1.elim
/-- o.f = e: o of the store -/
def sFldR (cs : List String) (f : Str) (mo me : EM) : SM := fun Γ st => (me Γ st).bs Γ fun x s1 => (mo Γ s1).bs Γ fun o s2 => match o with
  | .ref l => match s2[l]? with
    | some (.ins C fs) => if C ∈ cs ∧ fs.length < 1000 then .nx Γ (s2.set l (.ins C (putFD f x fs))) else .no
    | _ => .no
  | _ => .no
theorem ps_fldR {o e : Expr} {f : Str} {mo me : EM} {cs : List String} {pos pos' : Pos} (T : ∀ C ∈ cs, FldOK K C f) (ho : PR P wd K mg base k N sc W o mo) (he : PR P wd K mg base k N sc W e me)
    (hs : ∀ env, swapsWith e (some (.Attribute o f pos')) pos.line env = pure false) : PSt P wd K mg base k N sc W (.Assign [.Attribute o f pos'] e pos) (sFldR cs f mo me) := by
  obtain ⟨to, po, ro⟩ := ho
  obtain ⟨te, pe, re⟩ := he
  refine ⟨sFld K to te f, fun X g => by have := ps_fld (f := f) (pos := pos) (pos' := pos') (po X g) (pe X g) (hs X.env); rw [g.kk] at this; exact this, ?_⟩
  intro w0 w Γ σ e0 ok f0 Dn q
  refine re.useS e0 ok f0 q fun x v w1 e1 k1 f1 r1 x1 p1 => ?_
  refine ro.useS e1 k1 f1 p1 fun o u w2 e2 k2 f2 r2 x2 p2 => ?_
  have r1' := r1.ext x2
  cases r2 with
  | @ref l hl =>
    dsimp only at p2
    split at p2
    · rename_i C fs hx
      obtain ⟨ob, h1, h2, h3⟩ := k2.live hx (by simp)
      obtain ⟨dx, vs, rfl, rp⟩ := h3
      by_cases hc : C ∈ cs ∧ fs.length < 1000
      · rw [if_pos hc] at p2
        obtain ⟨ev, kv⟩ := put_ok (o := .ins (cA K C) dx (putF f v vs)) (d := .ins C (putFD f x fs)) k2 hl h2 ⟨dx, _, rfl, repP_putF r1' rp⟩
        exact ⟨w2.ρ l, _, dx, vs, rfl, h1, (T C hc.1).c, (T C hc.1).n, by rw [rp.len]; exact hc.2, p2 (w2.put l _ _) σ (e2.trans k2 ev) ev.ext kv rfl (f2.evo ev)⟩
      · rw [if_neg hc] at p2; exact p2.elim
    · exact p2.elim
  | _ => exact p2.elim

/-! #### methods -/
def tMethG (K : PySem.W.Frag) (tab : List (String × DF)) (m : Str) (W : WX) (ta : TE) (t : TA) : TE := fun σ H Q => ∃ p ∈ tab, ta σ H fun x H1 => ∃ a dx fs, x = .ref a ∧ H1 a = some (.ins (cA K p.1) dx fs) ∧ fs.lookup m = none ∧ t σ H1 fun vs H2 => spD K p.2 (x :: vs) H2 Q (WE W σ)
def eMeth (tab : List (String × DF)) (m : Str) (mo ms : EM) : EM := fun Γ st => if tab = [] then .no else (mo Γ st).bind fun o s1 => match deref s1 o with
  | .ins C fs => if (fs.lookup m).isNone = true then (match tab.lookup C with
      | some F => (ms Γ s1).bind fun d s2 => match d with | .tup ds => F (o :: ds) s2 | _ => .no
      | none => .no) else .no
  | _ => .no
theorem lookup_mem {α β : Type} [BEq α] [LawfulBEq α] {l : List (α × β)} {a : α} {b : β} (h : l.lookup a = some b) : (a, b) ∈ l := by
  induction l with
  | nil => cases h
  | cons p ps ih =>
    obtain ⟨x, y⟩ := p
    by_cases z : a == x
    · simp only [List.lookup, z] at h
      cases h
      rw [eq_of_beq z]; exact List.mem_cons_self
    · simp only [List.lookup, z] at h
      exact List.mem_cons_of_mem _ (ih h)
theorem rt_meth {tab : List (String × DF)} {m : Str} {ta : TE} {t : TA} {mo ms : EM} (ra : RT K W ta mo) (r : RTA K W t ms) : RT K W (tMethG K tab m W ta t) (eMeth tab m mo ms) := by
  intro H0 w Γ σ ok f0 Q q
  unfold eMeth at q
  by_cases hT : tab = []
  · rw [if_pos hT] at q; exact q.elim
  rw [if_neg hT] at q
  cases e : mo Γ w.st with
  | no => rw [e] at q; exact q.elim
  | err x st =>
    cases tab with
    | nil => exact absurd rfl hT
    | cons p ps =>
      refine ⟨p, List.mem_cons_self, ra H0 w Γ σ ok f0 _ ?_⟩
      rw [e] at q ⊢; exact q
  | ok o s1 =>
    rw [e, ok_bind] at q
    cases hd : deref s1 o with
    | ins C fs =>
      rw [hd] at q
      dsimp only at q
      by_cases hm : (fs.lookup m).isNone = true
      · rw [if_pos hm] at q
        cases hF : tab.lookup C with
        | none => rw [hF] at q; exact q.elim
        | some F =>
          rw [hF] at q
          dsimp only at q
          refine ⟨(C, F), lookup_mem hF, ra H0 w Γ σ ok f0 _ ?_⟩
          rw [e]
          intro v w1 e1 k1 s1' rv
          have vw := rv.vw k1
          rw [s1', hd] at vw
          obtain ⟨a, dx, vs, rfl, hH, rp⟩ := vw
          refine ⟨a, dx, vs, rfl, hH, rp.look0 m (Option.isNone_iff_eq_none.mp hm), ?_⟩
          have q1 : PostE K w1 ((ms Γ w1.st).bind fun d s2 => match d with | .tup ds => F (o :: ds) s2 | _ => .no) Q (at_ W σ) := by rw [s1']; exact PostE.shift e1 k1 q
          refine RTA.use (P := fun w r => PostE K w r Q (at_ W σ)) r k1 (f0.evo e1) (fun _ _ e k p => p.shift e k) (fun _ _ p => p) (fun p => p) (fun d st hb => by cases d <;> first | rfl | exact absurd rfl (hb _)) q1 fun ds vs' w2 e2 k2 f2 r2 p2 => ?_
          exact ⟨w2, o :: ds, rfl, k2, .cons (rv.evo e2) r2, p2⟩
      · rw [if_neg hm] at q; exact q.elim
    | _ => rw [hd] at q; exact q.elim
theorem pr_meth {j : Nat} {m : Str} {tab : List (String × DF)} {o e : Expr} {es : List Expr} {mo ms : EM} {pl : PySem.Env → Sem Bool} {apos pos : Pos} (T : ∀ p ∈ tab, MethOK P wd K mg base j p.1 m p.2) (ho : PR P wd K mg base k N sc W o mo) (ha : PAr P wd K mg base k N sc W (e :: es) ms) (hk : j ≤ k := by omega)
    (hst : ∀ env, starEach (e :: es) env = (false, eval e env) :: starEach es env := by intro _; rfl) (hpl : ∀ env, (backTo pos (starEach es env)).any (·.1) = false := by intro _; rfl)
    (ht : ∀ env, eval (.Call (.Attribute o m apos) (e :: es) [] pos) env = (do
      let ov ← eval o env
      standAt apos.atName
      let (f, first) ← holding [ov] (getMethod ov m (pl env))
      callWith pos f first (backTo pos (starEach (e :: es) env)) (backToKw pos (keywordEach [] env))) := by intro _; rfl) :
    PR P wd K mg base k N sc W (.Call (.Attribute o m apos) (e :: es) [] pos) (eMeth tab m mo ms) := by
  obtain ⟨ta, pa, ra⟩ := ho
  obtain ⟨t, pt, r⟩ := ha
  refine ⟨tMethG K tab m W ta t, fun X g => ⟨fun pins s σ H Q I h => ?_⟩, rt_meth ra r⟩
  have pX := pa X g
  have aX := pt X g
  obtain ⟨rfl, rfl, rfl, rfl, rfl, rfl, hsc, hc, hr, hgd, tk, _, _⟩ := g
  obtain ⟨p, hp, h⟩ := h
  obtain ⟨c, gf, fd, ps, F, hm, hb⟩ := T p hp
  refine PySem.W.methodCall_KW (pl := pl X.env) (thn (pX.run pins s σ H _ I h) fun u s1 ⟨x, H1, I1, rx, a, dx, fs, ex, ea, l, q⟩ => ?_) (ht X.env)
  subst ex
  obtain rfl : u = Value.ref a := rx
  refine getmeth_ok I1 ea c hm l ?_
  refine PySem.W.callWith_K (first := [.ref a]) (h₀ := X.base) I.ok.mod.kin hm.kp (thn (aX.run pos pins s1 σ H1 _ I1 q) fun us s2 ⟨vs, H2, I2, r, q2⟩ => ⟨I2.kIn, ?_⟩) (hst X.env) (hpl X.env)
  exact run_g (us := .ref a :: us) (vs := .ref a :: vs) F ⟨hr.mono hk, hgd⟩ hb tk I2 (.cons rfl r) q2
theorem pr_meth0 {j : Nat} {m : Str} {tab : List (String × DF)} {o : Expr} {mo : EM} {pl : PySem.Env → Sem Bool} {apos pos : Pos} (T : ∀ p ∈ tab, MethOK P wd K mg base j p.1 m p.2) (ho : PR P wd K mg base k N sc W o mo) (hk : j ≤ k := by omega)
    (ht : ∀ env, eval (.Call (.Attribute o m apos) [] [] pos) env = (do
      let ov ← eval o env
      standAt apos.atName
      let (f, first) ← holding [ov] (getMethod ov m (pl env))
      callWith pos f first (backTo pos (starEach [] env)) (backToKw pos (keywordEach [] env))) := by intro _; rfl) :
    PR P wd K mg base k N sc W (.Call (.Attribute o m apos) [] [] pos) (eMeth tab m mo eNil) := by
  obtain ⟨ta, pa, ra⟩ := ho
  obtain ⟨t, pt, r⟩ := (pa_nil' : PAr P wd K mg base k N sc W [] eNil)
  refine ⟨tMethG K tab m W ta tNil, fun X g => ⟨fun pins s σ H Q I h => ?_⟩, rt_meth ra fun H0 w Γ σ ok f Q p => p [] w (Evo.refl w) ok rfl .nil⟩
  have pX := pa X g
  obtain ⟨rfl, rfl, rfl, rfl, rfl, rfl, hsc, hc, hr, hgd, tk, _, _⟩ := g
  obtain ⟨p, hp, h⟩ := h
  obtain ⟨c, gf, fd, ps, F, hm, hb⟩ := T p hp
  refine PySem.W.methodCall_KW (pl := pl X.env) (thn (pX.run pins s σ H _ I h) fun u s1 ⟨x, H1, I1, rx, a, dx, fs, ex, ea, l, q⟩ => ?_) (ht X.env)
  subst ex
  obtain rfl : u = Value.ref a := rx
  refine getmeth_ok I1 ea c hm l ?_
  exact PySem.W.callWith_K0 (first := [.ref a]) I1.kIn hm.kp (run_g (us := [.ref a]) (vs := [.ref a]) F ⟨hr.mono hk, hgd⟩ hb tk I1 (.cons rfl .nil) q)
/-! #### properties -/
def tPropG (K : PySem.W.Frag) (tab : List (String × DF)) (ta : TE) : TE := fun σ H Q => ∃ p ∈ tab, ta σ H fun x H1 => ∃ a dx fs, x = .ref a ∧ H1 a = some (.ins (cA K p.1) dx fs) ∧ spD K p.2 [.ref a] H1 Q fun _ _ _ => False
def eProp (tab : List (String × DF)) (mo : EM) : EM := fun Γ st => if tab = [] then .no else (mo Γ st).bind fun o s1 => match deref s1 o with
  | .ins C _ => (match tab.lookup C with
      | some F => (match F [o] s1 with | .ok d s2 => .ok d s2 | _ => .no)
      | none => .no)
  | _ => .no
theorem rt_prop {tab : List (String × DF)} {ta : TE} {mo : EM} (ra : RT K W ta mo) : RT K W (tPropG K tab ta) (eProp tab mo) := by
  intro H0 w Γ σ ok f0 Q q
  unfold eProp at q
  by_cases hT : tab = []
  · rw [if_pos hT] at q; exact q.elim
  rw [if_neg hT] at q
  cases e : mo Γ w.st with
  | no => rw [e] at q; exact q.elim
  | err x st =>
    cases tab with
    | nil => exact absurd rfl hT
    | cons p ps =>
      refine ⟨p, List.mem_cons_self, ra H0 w Γ σ ok f0 _ ?_⟩
      rw [e] at q ⊢; exact q
  | ok o s1 =>
    rw [e, ok_bind] at q
    cases hd : deref s1 o with
    | ins C fs =>
      rw [hd] at q
      dsimp only at q
      cases hF : tab.lookup C with
      | none => rw [hF] at q; exact q.elim
      | some F =>
        rw [hF] at q
        dsimp only at q
        refine ⟨(C, F), lookup_mem hF, ra H0 w Γ σ ok f0 _ ?_⟩
        rw [e]
        intro v w1 e1 k1 s1' rv
        have vw := rv.vw k1
        rw [s1', hd] at vw
        obtain ⟨a, dx, vs, rfl, hH, rp⟩ := vw
        refine ⟨a, dx, vs, rfl, hH, w1, [o], rfl, k1, .cons rv .nil, ?_⟩
        show PostE K w1 (F [o] w1.st) Q _
        rw [s1']
        cases hr : F [o] s1 with
        | ok d s2 => rw [hr] at q; exact PostE.shift (r := .ok d s2) e1 k1 q
        | err x s2 => rw [hr] at q; exact q.elim
        | no => rw [hr] at q; exact q.elim
    | _ => rw [hd] at q; exact q.elim
theorem pr_prop {j : Nat} {m : Str} {tab : List (String × DF)} {o : Expr} {mo : EM} {pos : Pos} (T : ∀ p ∈ tab, PropOK P wd K mg base j p.1 m p.2) (ho : PR P wd K mg base k N sc W o mo) (hk : j + 1 ≤ k := by omega)
    (hb : ∀ env, attributeBase o m env (eval o env) = eval o env := by intro _; rfl) : PR P wd K mg base k N sc W (.Attribute o m pos) (eProp tab mo) := by
  obtain ⟨ta, pa, ra⟩ := ho
  refine ⟨tPropG K tab ta, fun X g => ⟨fun pins s σ H Q I h => ?_⟩, rt_prop ra⟩
  have pX := pa X g
  obtain ⟨rfl, rfl, rfl, rfl, rfl, rfl, hsc, hc, hr, hgd, tk, _, _⟩ := g
  obtain ⟨p, hp, h⟩ := h
  obtain ⟨c, gf, pf, fd, ps, F, hm, hbd⟩ := T p hp
  refine attr_of (hb X.env) (thn (pX.run pins s σ H _ I h) fun u s1 ⟨x, H1, I1, rx, a, dx, fs, ex, ea, q⟩ => ?_)
  subst ex
  obtain rfl : u = Value.ref a := rx
  exact getprop_g I1 ea c hm F ⟨hr.mono hk, hgd⟩ hbd q
/-! #### new objects -/
def tMakeG (K : PySem.W.Frag) (C : String) (F : DF) (W : WX) (t : TA) : TE := fun σ H Q => t σ H fun vs H1 => ∀ x dx, H1 x = none → H1 dx = none → dx ≠ x →
  spD K F (.ref x :: vs) (upd (upd H1 dx (.own x)) x (.ins (cA K C) dx [])) (fun v H2 => v = .non ∧ Q (.ref x) H2) (WE W σ)
/-- an object of the store is sealed: from then on it is read only -/
theorem sealO {w1 w' : Wd} {l : Nat} {C : String} {fs : List (Str × D)} (e : Evo w1 w') (k : Ok K w') (hx : w1.H (w'.ρ l) = none) (h : w'.st[l]? = some (.ins C fs)) : ∃ w2 : Wd, w2.H = w'.H ∧ w2.st = w'.st.set l .tomb ∧ Evo w1 w2 ∧ Ok K w2 ∧ Rep K w2 (.ref (w'.ρ l)) (.ins C fs) := by
  obtain ⟨o, h1, h2, h3⟩ := k.live h (by simp)
  have h3' := h3
  obtain ⟨dx, vs, rfl, rp⟩ := h3'
  have hl := getElem?_lt h
  have x : Ext w' { w' with M := upd w'.M (w'.ρ l) (.ins (cA K C) dx vs), st := w'.st.set l .tomb } := ⟨fun b u q => by show upd w'.M _ _ b = _; rw [upd_ne (ne_of_none q h2)]; exact q, fun _ _ => rfl, by show _ ≤ (w'.st.set l D.tomb).length; simp⟩
  refine ⟨{ w' with M := upd w'.M (w'.ρ l) (.ins (cA K C) dx vs), st := w'.st.set l .tomb }, rfl, rfl, ⟨(e.ext.trans x).mono, e.rho, (e.ext.trans x).le, fun b u q n => ?_, fun m a b => ?_, e.keep⟩, ⟨fun b u q => ?_, fun m d q => ?_, fun a b ha hb => ?_⟩, ?_⟩
  · by_cases z : b = w'.ρ l
    · rw [z]; exact hx
    · have q' : upd w'.M (w'.ρ l) _ b = some u := q
      rw [upd_ne z] at q'; exact e.newM b u q' n
  · have b' : m < (w'.st.set l D.tomb).length := b
    simp at b'
    exact e.newR m a b'
  · have q' : upd w'.M (w'.ρ l) _ b = some u := q
    by_cases z : b = w'.ρ l
    · rw [z, upd_same] at q'; cases q'; rw [z]; exact h1
    · rw [upd_ne z] at q'; exact k.ex b u q'
  · have q' : (w'.st.set l D.tomb)[m]? = some d := q
    by_cases z : l = m
    · subst z
      rw [List.getElem?_set_self hl] at q'; cases q'
      exact ⟨_, h1, .inl rfl⟩
    · rw [List.getElem?_set_ne z] at q'
      obtain ⟨u, g1, g2⟩ := k.sto m d q'
      refine ⟨u, g1, g2.imp id fun ⟨g2, g3⟩ => ⟨?_, g3.ext x⟩⟩
      show upd w'.M _ _ (w'.ρ m) = _
      rw [upd_ne (fun y => z (k.inj l m hl (getElem?_lt q') y.symm))]; exact g2
  · have ha' : a < (w'.st.set l D.tomb).length := ha
    have hb' : b < (w'.st.set l D.tomb).length := hb
    simp at ha' hb'
    exact k.inj a b ha' hb'
  · have rp' := rp.ext x
    exact .ins (by show upd _ _ _ _ = _; exact upd_same) rp'.1 rp'.2
def eMakeR (C : String) (F : DF) (ms : EM) : EM := fun Γ st => (ms Γ st).bind fun d s => match d with
  | .tup ds => (match F (.ref s.length :: ds) (s ++ [.ins C []]) with
    | .ok .non s2 => .ok (.ref s.length) s2
    | .err x s2 => .err x s2
    | _ => .no)
  | _ => .no
def eMake (C : String) (F : DF) (ms : EM) : EM := fun Γ st => (ms Γ st).bind fun d s => match d with
  | .tup ds => (match F (.ref s.length :: ds) (s ++ [.ins C []]) with
    | .ok .non s2 => (match s2[s.length]? with | some (.ins C' fs) => .ok (.ins C' fs) (s2.set s.length .tomb) | _ => .no)
    | .err x s2 => .err x s2
    | _ => .no)
  | _ => .no
theorem make_start {w1 : Wd} (k1 : Ok K w1) {C : String} {x dx : Addr} (hx : w1.H x = none) (hd : w1.H dx = none) (ne : dx ≠ x) : ∃ w2 : Wd, w2.H = upd (upd w1.H dx (.own x)) x (.ins (cA K C) dx []) ∧ w2.st = w1.st ++ [.ins C []] ∧ Evo w1 w2 ∧ Ok K w2 ∧ w2.ρ w1.st.length = x := by
  have e1 := evo_al k1 (.own x) hd
  have o1 := ok_al k1 (.own x) (k1.none hd) (k1.noR hd)
  have hx1 : (w1.al dx (.own x)).H x = none := by show upd _ _ _ _ = _; rw [upd_ne (Ne.symm ne)]; exact hx
  have e2 := evo_al o1 (.ins (cA K C) dx []) hx1
  have o2 := ok_al o1 (.ins (cA K C) dx []) (o1.none hx1) (o1.noR hx1)
  obtain ⟨e3, _, o3⟩ := push_ok (w0 := w1) (a := x) (d := .ins C []) (e1.trans o1 e2) o2 hx (show upd _ _ _ _ = _ from upd_same) (o1.none hx1) (o1.noR hx1) ⟨dx, [], rfl, .nil⟩
  exact ⟨_, rfl, rfl, e3, o3, by show (if w1.st.length = w1.st.length then x else _) = _; rw [if_pos rfl]⟩
theorem rt_makeR {C : String} {F : DF} {t : TA} {ms : EM} (r : RTA K W t ms) : RT K W (tMakeG K C F W t) (eMakeR C F ms) := by
  intro H0 w Γ σ ok f0 Q q
  refine RTA.use (P := fun w r => PostE K w r Q (at_ W σ)) r ok f0 (fun _ _ e k p => p.shift e k) (fun _ _ p => p) (fun p => p) (fun d st hb => by cases d <;> first | rfl | exact absurd rfl (hb _)) q fun ds vs w1 e1 k1 f1 r1 p1 => ?_
  intro x dx hx hd ne
  obtain ⟨w2, h1, h2, e2, k2, hr⟩ := make_start (C := C) k1 hx hd ne
  have hl : w1.st.length < w2.st.length := by rw [h2]; simp
  have rr : Rep K w2 (.ref x) (.ref w1.st.length) := by rw [← hr]; exact .ref hl
  refine ⟨w2, .ref w1.st.length :: ds, h1, k2, .cons rr (r1.evo e2), ?_⟩
  rw [h2]
  have p1' : PostE K w1 (match F (.ref w1.st.length :: ds) (w1.st ++ [.ins C []]) with | .ok .non s2 => .ok (.ref w1.st.length) s2 | .err x s2 => .err x s2 | _ => .no) Q (at_ W σ) := p1
  cases e : F (.ref w1.st.length :: ds) (w1.st ++ [.ins C []]) with
  | no => rw [e] at p1'; exact p1'.elim
  | err y s2 => rw [e] at p1'; exact fun c dd w3 e3 k3 s3 rx => p1' c dd w3 (e2.trans k2 e3) k3 s3 rx
  | ok d s2 =>
    rw [e] at p1'
    cases d with
    | non =>
      intro v w3 e3 k3 s3 rv
      cases rv
      exact ⟨rfl, p1' (.ref x) w3 (e2.trans k2 e3) k3 s3 (rr.evo e3)⟩
    | _ => exact p1'.elim
theorem rt_make {C : String} {F : DF} {t : TA} {ms : EM} (r : RTA K W t ms) : RT K W (tMakeG K C F W t) (eMake C F ms) := by
  intro H0 w Γ σ ok f0 Q q
  refine RTA.use (P := fun w r => PostE K w r Q (at_ W σ)) r ok f0 (fun _ _ e k p => p.shift e k) (fun _ _ p => p) (fun p => p) (fun d st hb => by cases d <;> first | rfl | exact absurd rfl (hb _)) q fun ds vs w1 e1 k1 f1 r1 p1 => ?_
  intro x dx hx hd ne
  obtain ⟨w2, h1, h2, e2, k2, hr⟩ := make_start (C := C) k1 hx hd ne
  have hl : w1.st.length < w2.st.length := by rw [h2]; simp
  have rr : Rep K w2 (.ref x) (.ref w1.st.length) := by rw [← hr]; exact .ref hl
  refine ⟨w2, .ref w1.st.length :: ds, h1, k2, .cons rr (r1.evo e2), ?_⟩
  rw [h2]
  have p1' : PostE K w1 (match F (.ref w1.st.length :: ds) (w1.st ++ [.ins C []]) with | .ok .non s2 => (match s2[w1.st.length]? with | some (.ins C' fs) => .ok (.ins C' fs) (s2.set w1.st.length .tomb) | _ => .no) | .err x s2 => .err x s2 | _ => .no) Q (at_ W σ) := p1
  cases e : F (.ref w1.st.length :: ds) (w1.st ++ [.ins C []]) with
  | no => rw [e] at p1'; exact p1'.elim
  | err y s2 => rw [e] at p1'; exact fun c dd w3 e3 k3 s3 rx => p1' c dd w3 (e2.trans k2 e3) k3 s3 rx
  | ok d s2 =>
    rw [e] at p1'
    cases d with
    | non =>
      intro v w3 e3 k3 s3 rv
      cases rv
      refine ⟨rfl, ?_⟩
      dsimp only at p1'
      split at p1'
      · rename_i C' fs hs
        rw [← s3] at hs p1'
        have hρ : w3.ρ w1.st.length = x := (e3.rho _ hl).trans hr
        obtain ⟨w4, g1, g2, g3, g4, g5⟩ := sealO (e2.trans k2 e3) k3 (by rw [hρ]; exact hx) hs
        rw [hρ] at g5
        rw [← g1]
        exact p1' (.ref x) w4 g3 g4 g2 g5
      · exact p1'.elim
    | _ => exact p1'.elim
theorem pe_makeG {X : Cx} {j : Nat} {C : String} {F : DF} {e : Expr} {es : List Expr} {t : TA} {p pos : Pos} (g : G P wd K mg base k N sc W X) (M : MakeOK P wd K mg base j C F) (pa : PA X (e :: es) t) (hk : j + 1 ≤ k) (hg : sc.s.names.lookup (Str.ofString C) = some .globalImplicit)
    (hdb : (Str.ofString C == ("__debug__" : Str)) = false) (he : ∀ env, starEach (e :: es) env = (false, eval e env) :: starEach es env) (hpl : ∀ env, (backTo pos (starEach es env)).any (·.1) = false) :
    PE X (.Call (.Name (Str.ofString C) p) (e :: es) [] pos) (tMakeG K C F W t) := by
  obtain ⟨rfl, rfl, rfl, rfl, rfl, rfl, hsc, hc, hr, hgd, tk, _, _⟩ := g
  obtain ⟨hm, gf, fd, ps, F1, M1, hb⟩ := M
  refine ⟨fun pins s σ H Q I h => ?_⟩
  refine wpAny_Call_Name_kw (ld_glob I (by unfold Gl PySem.Env.kindOf; rw [hsc]; exact hg) hm ?_ hdb)
  refine PySem.W.callWith_K (h₀ := X.base) I.ok.mod.kin M1.kp (thn (pa.run pos pins s σ H _ I h) fun us s1 ⟨vs, H1, I1, r, q⟩ => ⟨I1.kIn, ?_⟩) (he X.env) (hpl X.env)
  exact run_makeG M1 F1 ⟨hr.mono hk, hgd⟩ hb tk I1 r q
theorem pr_make {j : Nat} (C : String) {F : DF} {e : Expr} {es : List Expr} {ms : EM} {p pos : Pos} (M : MakeOK P wd K mg base j C F) (ha : PAr P wd K mg base k N sc W (e :: es) ms) (hk : j + 1 ≤ k := by omega) (hg : sc.s.names.lookup (Str.ofString C) = some .globalImplicit := by rfl)
    (hdb : (Str.ofString C == ("__debug__" : Str)) = false := by decide) (he : ∀ env, starEach (e :: es) env = (false, eval e env) :: starEach es env := by intro _; rfl) (hpl : ∀ env, (backTo pos (starEach es env)).any (·.1) = false := by intro _; rfl) :
    PR P wd K mg base k N sc W (.Call (.Name (Str.ofString C) p) (e :: es) [] pos) (eMake C F ms) := by
  obtain ⟨t, pt, r⟩ := ha
  exact ⟨_, fun X g => pe_makeG g M (pt X g) hk hg hdb he hpl, rt_make r⟩
theorem pr_makeR {j : Nat} (C : String) {F : DF} {e : Expr} {es : List Expr} {ms : EM} {p pos : Pos} (M : MakeOK P wd K mg base j C F) (ha : PAr P wd K mg base k N sc W (e :: es) ms) (hk : j + 1 ≤ k := by omega) (hg : sc.s.names.lookup (Str.ofString C) = some .globalImplicit := by rfl)
    (hdb : (Str.ofString C == ("__debug__" : Str)) = false := by decide) (he : ∀ env, starEach (e :: es) env = (false, eval e env) :: starEach es env := by intro _; rfl) (hpl : ∀ env, (backTo pos (starEach es env)).any (·.1) = false := by intro _; rfl) :
    PR P wd K mg base k N sc W (.Call (.Name (Str.ofString C) p) (e :: es) [] pos) (eMakeR C F ms) := by
  obtain ⟨t, pt, r⟩ := ha
  exact ⟨_, fun X g => pe_makeG g M (pt X g) hk hg hdb he hpl, rt_makeR r⟩
end
end DL
namespace DL
open PySem L2
section
variable {P : Program} {wd : World} {K : PySem.W.Frag} {mg : Str → Option Value} {base : Heap} {k : Nat} {N : List Str} {sc : SC} {W : WX}
/-! ### what is never reached -/
def eNo : EM := fun _ _ => .no
def sNo : SM := fun _ _ => .no
theorem pr_no {e : Expr} : PR P wd K mg base k N sc W e eNo := ⟨fun _ _ _ => False, fun X g => ⟨fun _ _ _ _ _ _ h => h.elim⟩, fun H0 w Γ σ ok f Q p => p⟩
theorem pt_no {e : Expr} : PTt P wd K mg base k N sc W e eNo := ⟨fun _ _ _ => False, fun X g => ⟨fun _ _ _ _ _ _ h => h.elim⟩, fun H0 w Γ σ ok f Q p => p⟩
theorem ps_no {s : Stmt} : PSt P wd K mg base k N sc W s sNo := ⟨fun _ _ _ => False, fun X g => ⟨fun _ _ _ _ _ _ h => h.elim⟩, fun w0 w Γ σ e ok f D p => p⟩
/-! ### a < b < c -/
def eChain (f g : D → D → Store → ER) (ma mb mc : EM) : EM := fun Γ st => (ma Γ st).bind fun x s1 => (mb Γ s1).bind fun y s2 => (f (deref s2 x) (deref s2 y) s2).bind fun z s3 => match z with
  | .bl true => (mc Γ s3).bind fun u s4 => g (deref s4 y) (deref s4 u) s4
  | .bl false => .ok (.bl false) s3
  | _ => .no
theorem rt_chain {r r' : R2} {f g : D → D → Store → ER} {ta tb tc : TE} {ma mb mc : EM} (h : OpD K r f) (h' : OpD K r' g) (ra : RB K W ta ma) (rb : RB K W tb mb) (rc : RB K W tc mc) : RT K W (tChain r r' ta tb tc) (eChain f g ma mb mc) := by
  intro H0 w Γ σ ok f0 Q p
  refine ra.use ok f0 (P := fun w r => PostE K w r Q (at_ W σ)) (fun _ _ e k p => p.shift e k) (fun _ _ p => p) (fun p => p) p fun dx x w1 e1 k1 f1 vx p1 => ?_
  refine rb.use k1 f1 (P := fun w r => PostE K w r Q (at_ W σ)) (fun _ _ e k p => p.shift e k) (fun _ _ p => p) (fun p => p) p1 fun dy y w2 e2 k2 f2 vy p2 => ?_
  refine h w2 x y _ _ _ (at_ W σ) k2 ((vx.evo e2).vw k2 f2) (vy.vw k2 f2) ?_
  have p2' : PostE K w2 ((f (deref w2.st dx) (deref w2.st dy) w2.st).bind _) Q (at_ W σ) := p2
  cases e : f (deref w2.st dx) (deref w2.st dy) w2.st with
  | no => rw [e] at p2'; exact p2'
  | err z s3 => rw [e] at p2'; exact p2'
  | ok z s3 =>
    rw [e, ok_bind] at p2'
    intro v w3 e3 k3 s3' rv
    subst s3'
    cases rv with
    | @bl b =>
      refine ⟨b, rfl, ?_⟩
      have p3 := PostE.shift e3 k3 p2'
      cases b with
      | true =>
        refine iteT ?_
        refine rc.use k3 (f2.evo e3) (P := fun w r => PostE K w r Q (at_ W σ)) (fun _ _ e k p => p.shift e k) (fun _ _ p => p) (fun p => p) p3 fun du u w4 e4 k4 f4 vu p4 => ?_
        exact h' w4 y u _ _ Q _ k4 (((vy.evo e3).evo e4).vw k4 f4) (vu.vw k4 f4) p4
      | false => exact iteF (p3.now k3 .bl)
    | _ => exact p2'.elim
theorem pr_chain {op op' : CmpOp} {r r' : R2} {f g : D → D → Store → ER} {a b c : Expr} {ma mb mc : EM} {pos : Pos} (ho : ∀ X, G P wd K mg base k N sc W X → OpR X (compareOp op) r) (h : OpD K r f) (ho' : ∀ X, G P wd K mg base k N sc W X → OpR X (compareOp op') r') (h' : OpD K r' g)
    (ha : PB P wd K mg base k N sc W a ma) (hb : PB P wd K mg base k N sc W b mb) (hc : PB P wd K mg base k N sc W c mc) (hm : lastMarks [op, op'] [b, c] = false := by with_unfolding_all rfl) : PR P wd K mg base k N sc W (.Compare a [op, op'] [b, c] pos) (eChain f g ma mb mc) := by
  obtain ⟨ta, pa, ra⟩ := ha
  obtain ⟨tb, pb, rb⟩ := hb
  obtain ⟨tc, pc, rc⟩ := hc
  exact ⟨_, fun X g => pe_chain (ho X g) (ho' X g) (pa X g) (pb X g) (pc X g) hm, rt_chain h h' ra rb rc⟩
theorem pt_chain' {op op' : CmpOp} {r r' : R2} {f g : D → D → Store → ER} {a b c : Expr} {ma mb mc : EM} {pos : Pos} (ho : ∀ X, G P wd K mg base k N sc W X → OpR X (compareOp op) r) (h : OpD K r f) (ho' : ∀ X, G P wd K mg base k N sc W X → OpR X (compareOp op') r') (h' : OpD K r' g)
    (ha : PB P wd K mg base k N sc W a ma) (hb : PB P wd K mg base k N sc W b mb) (hc : PB P wd K mg base k N sc W c mc) (hm : lastMarks [op, op'] [b, c] = false := by with_unfolding_all rfl) : PTt P wd K mg base k N sc W (.Compare a [op, op'] [b, c] pos) (eChain f g ma mb mc) := by
  obtain ⟨ta, pa, ra⟩ := ha
  obtain ⟨tb, pb, rb⟩ := hb
  obtain ⟨tc, pc, rc⟩ := hc
  exact ⟨_, fun X g => pt_chain (ho X g) (ho' X g) (pa X g) (pb X g) (pc X g) hm, rtt_test (rt_chain h h' ra rb rc)⟩
theorem X_lt (X : Cx) (_ : G P wd K mg base k N sc W X) : OpR X (compareOp .Lt) (rOr (rI0 fun i j => .bl (decide (i < j))) (fun x y H Q => ∃ i j, x = .str i ∧ y = .str j ∧ Q (.bl (decide (i.cps.toList < j.cps.toList))) H)) := OpR.or' op_lt op_lt_str
theorem X_le (X : Cx) (_ : G P wd K mg base k N sc W X) : OpR X (compareOp .LtE) (rOr (rI0 fun i j => .bl (decide (i ≤ j))) (fun x y H Q => ∃ i j, x = .str i ∧ y = .str j ∧ Q (.bl (!decide (j.cps.toList < i.cps.toList))) H)) := OpR.or' op_le op_le_str

/-! ### dict comprehensions -/
def dcL (mg : GM) (mt mk me : EM) : List D → DEnv → Store → List (Key × D) → ER
  | [], _, st, acc => .ok (.dct acc) st
  | d :: ds, Γ, st, acc => match mg d Γ with
    | none => .no
    | some Γ1 => match mt Γ1 st with
      | .ok (.bl true) s1 => match mk Γ1 s1 with
        | .ok ky s2 => match keyD ky with
          | some kk => match me Γ1 s2 with
            | .ok x s3 => if acc.length < 16777216 then dcL mg mt mk me ds Γ s3 (putD acc kk x) else .no
            | _ => .no
          | none => .no
        | _ => .no
      | .ok (.bl false) s1 => dcL mg mt mk me ds Γ s1 acc
      | _ => .no
def eDc (vs : List Nat) (mi : EM) (mg : GM) (mt mk me : EM) : EM := fun Γ st => (mi Γ st).bind fun d s => match d with | .tup ds => dcL mg mt mk me ds (wipeE Γ vs) s [] | _ => .no
theorem rtn_dc {wi : TI} {g : TG} {tt : TT} {tk te : TE} {mi mt mk me : EM} {mg' : GM} {is vs : List Nat} (hi : RTI K W wi mi) (hg : RTG K g mg' is) (his : ∀ i ∈ is, i ∈ vs) (ht : RTT K WF tt mt) (hkk : RT K WF tk mk) (he : RT K WF te me) : RTN K W (tDc wi g tt tk te vs) (eDc vs mi mg' mt mk me) := by
  intro H0 w Γ σ ok f Q p
  refine hi H0 w Γ σ ok f _ ?_
  have p' : PostN K w ((mi Γ w.st).bind _) Q (at_ W σ) := p
  cases h : mi Γ w.st with
  | no => rw [h] at p'; exact p'
  | err x st => rw [h] at p'; exact p'
  | ok d st =>
    rw [h] at p'
    cases d with
    | tup ds =>
      intro J w' ev k' s it
      subst s
      have p1 : PostN K w' (dcL mg' mt mk me ds (wipeE Γ vs) w'.st []) Q (at_ W σ) := PostN.shift ev k' p'
      have f' := f.evo ev
      intro D hD
      have a0 := evo_al k' (.dK []) hD
      have o0 := ok_al k' (.dK []) (k'.none hD) (k'.noR hD)
      refine ⟨fun i m H => ∃ (w1 : Wd) (acc : List (Key × V)) (acd : List (Key × DL.D)), H = w1.H ∧ Evo w' w1 ∧ Ok K w1 ∧ w1.H D = some (.dK acc) ∧ w1.M D = none ∧ (∀ l, l < w1.st.length → w1.ρ l ≠ D) ∧ RepP K w1 acc acd ∧ m = ds.length - i ∧ i ≤ ds.length ∧ PostN K w' (dcL mg' mt mk me (ds.drop i) (wipeE Γ vs) w1.st acd) Q (at_ W σ),
        ⟨ds.length, w'.al D (.dK []), [], [], rfl, a0, o0, upd_same, k'.none hD, k'.noR hD, .nil, rfl, Nat.zero_le _, p1⟩, ?_⟩
      rintro i m H ⟨w1, acc, acd, rfl, e1, k1, hd1, hm1, hr1, ra, rfl, hle, q⟩
      obtain ⟨go, stop⟩ := it i w1 e1.ext k1
      cases hd : ds[i]? with
      | none =>
        refine .inl ⟨stop hd, ?_⟩
        rw [List.drop_eq_nil_of_le (List.getElem?_eq_none_iff.mp hd)] at q
        exact q D _ w1 e1 k1 rfl hD hd1 hm1 hr1 ⟨acc, rfl, ra⟩
      | some d =>
        obtain ⟨g1, g2⟩ := go d hd
        have hl := getElem?_lt hd
        refine .inr ⟨g1, fun H => ∃ (w1 : Wd) (acc : List (Key × V)) (acd : List (Key × DL.D)), H = w1.H ∧ Evo w' w1 ∧ Ok K w1 ∧ w1.H D = some (.dK acc) ∧ w1.M D = none ∧ (∀ l, l < w1.st.length → w1.ρ l ≠ D) ∧ RepP K w1 acc acd ∧ PostN K w' (dcL mg' mt mk me (ds.drop (i + 1)) (wipeE Γ vs) w1.st acd) Q (at_ W σ), ?_, fun x H2 y => ?_⟩
        · rintro H' ⟨w3, acc3, acd3, rfl, b1, b2, b3, b4, b5, b6, b7⟩
          exact ⟨ds.length - (i + 1), by omega, w3, acc3, acd3, rfl, b1, b2, b3, b4, b5, b6, rfl, hl, b7⟩
        · obtain ⟨w2, rfl, s2, e2, k2, r2⟩ := g2 x H2 y
          rw [List.drop_eq_getElem_cons hl] at q
          have hd' : ds[i] = d := by rw [List.getElem?_eq_getElem hl] at hd; exact Option.some.inj hd
          rw [hd'] at q
          unfold dcL at q
          have fw : Fr K H0 w2 (wipeE Γ vs) (wipe σ vs) := ((fr_wipe f' vs).evo e1).evo e2
          have stand : ∀ {w3 w4 : Wd}, Evo w3 w4 → w3.H D = some (.dK acc) → w3.M D = none → (∀ l, l < w3.st.length → w3.ρ l ≠ D) → w4.H D = some (.dK acc) ∧ w4.M D = none ∧ ∀ l, l < w4.st.length → w4.ρ l ≠ D := fun {w3 w4} e h1 h2 h3 => by
            refine ⟨e.keep D _ h1 h2 h3, ?_, fun l hl z => ?_⟩
            · cases z : w4.M D with
              | none => rfl
              | some u => have y := e.newM D u z h2; rw [h1] at y; cases y
            · by_cases z2 : l < w3.st.length
              · exact h3 l z2 ((e.rho l z2).symm.trans z)
              · have y := e.newR l (Nat.le_of_not_lt z2) hl
                rw [z, h1] at y; cases y
          cases h1 : mg' d (wipeE Γ vs) with
          | none => rw [h1] at q; exact q.elim
          | some Γ2 =>
            rw [h1] at q
            dsimp only at q
            refine hg H0 w2 _ Γ2 _ x d k2 fw r2 h1 _ fun σ2 f2 wp => ⟨(wp vs his).trans (wipe_wipe vs), ?_⟩
            refine ht H0 w2 Γ2 σ2 k2 f2 _ ?_
            rw [s2]
            obtain ⟨c1, c2, c3⟩ := stand e2 hd1 hm1 hr1
            cases h2 : mt Γ2 w1.st with
            | no => rw [h2] at q; exact q.elim
            | err x st => rw [h2] at q; exact q.elim
            | ok b s1 =>
              rw [h2] at q
              cases b with
              | bl b =>
                intro w3 e3 k3 s3
                obtain ⟨d1, d2, d3⟩ := stand e3 c1 c2 c3
                have e13 : Evo w' w3 := (e1.trans k1 e2).trans k2 e3
                cases b with
                | false =>
                  refine iteF ⟨w3, acc, acd, rfl, e13, k3, d1, d2, d3, (ra.evo e2).evo e3, ?_⟩
                  rw [s3]; exact q
                | true =>
                  refine iteT ?_
                  refine hkk H0 w3 Γ2 σ2 k3 (f2.evo e3) _ ?_
                  rw [s3]
                  dsimp only at q
                  cases h3 : mk Γ2 s1 with
                  | no => rw [h3] at q; exact q.elim
                  | err x st => rw [h3] at q; exact q.elim
                  | ok ky s4 =>
                    rw [h3] at q
                    dsimp only at q
                    cases hky : keyD ky with
                    | none => rw [hky] at q; exact q.elim
                    | some kk =>
                      rw [hky] at q
                      dsimp only at q
                      intro vk w4 e4 k4 s4' rvk
                      obtain ⟨y1, y2, y3⟩ := stand e4 d1 d2 d3
                      have hvk := keyD_rep rvk hky
                      refine he H0 w4 Γ2 σ2 k4 ((f2.evo e3).evo e4) _ ?_
                      rw [s4']
                      cases h4 : me Γ2 s4 with
                      | no => rw [h4] at q; exact q.elim
                      | err x st => rw [h4] at q; exact q.elim
                      | ok x' s5 =>
                        rw [h4] at q
                        dsimp only at q
                        intro v w5 e5 k5 s5' rv
                        obtain ⟨z1, z2, z3⟩ := stand e5 y1 y2 y3
                        by_cases hlen : acd.length < 16777216
                        · rw [if_pos hlen] at q
                          have ra5 := (((ra.evo e2).evo e3).evo e4).evo e5
                          refine ⟨acc, kk, hvk, z1, by rw [ra.len, sizeLine_eq]; exact hlen, w5.al D (.dK (putK acc kk v)), putK acc kk v, putD acd kk x', rfl, ?_, ok_al k5 _ z2 z3, upd_same, z2, z3, RepP.ext (w := w5) (w' := w5.al D _) ⟨fun _ _ h => h, fun _ _ => rfl, Nat.le_refl _⟩ (repP_put ra5 kk rv), ?_⟩
                          · have e15 := (e13.trans k3 e4).trans k4 e5
                            exact ⟨e15.mono, e15.rho, e15.le, e15.newM, e15.newR, fun b u hb hmb hrb => by
                              show upd w5.H D _ b = _
                              rw [upd_ne (ne_of_none hb hD)]; exact e15.keep b u hb hmb hrb⟩
                          · show PostN K w' (dcL mg' mt mk me _ _ w5.st _) Q _
                            rw [s5']; exact q
                        · rw [if_neg hlen] at q; exact q.elim
              | _ => exact q.elim
    | _ => exact p'.elim
theorem dcL_dct {mg' : GM} {mt mk me : EM} {d : DL.D} {s : Store} : ∀ (ds : List DL.D) (Γ : DEnv) (st : Store) (acc : List (Key × DL.D)), dcL mg' mt mk me ds Γ st acc = .ok d s → ∃ xs, d = .dct xs
  | [], Γ, st, acc, h => by cases h; exact ⟨_, rfl⟩
  | x :: ds, Γ, st, acc, h => by
    unfold dcL at h
    split at h
    · cases h
    · split at h
      · split at h
        · split at h
          · split at h
            · split at h
              · exact dcL_dct ds _ _ _ h
              · cases h
            · cases h
          · cases h
        · cases h
      · exact dcL_dct ds _ _ _ h
      · cases h
theorem isNew_dc {vs : List Nat} {mi mt mk me : EM} {mg' : GM} : IsNew (eDc vs mi mg' mt mk me) := fun Γ st d s h => by
  have h' : (mi Γ st).bind _ = .ok d s := h
  cases e : mi Γ st with
  | no => rw [e] at h'; cases h'
  | err x st => rw [e] at h'; cases h'
  | ok x s1 =>
    rw [e] at h'
    cases x with
    | tup ds => obtain ⟨xs, rfl⟩ := dcL_dct ds _ _ _ h'; trivial
    | _ => cases h'
theorem pn_dc {kx vx tg iter : Expr} {ifs : List Expr} {scope : Scope} {own : List (Str × Nat)} {pos : Pos} {mi mt mk me : EM} {mg' : GM} {is : List Nat} (nd : N.Nodup) (ok : BlkOk N sc.s scope own) (hi : PIt P wd K mg base k N sc W tg iter mi) (hg : PGt P wd K mg base k N (blkS scope sc) WF tg mg' is)
    (ht : PTj P wd K mg base k N (blkS scope sc) WF ifs mt) (hkk : PR P wd K mg base k N (blkS scope sc) WF kx mk) (he : PR P wd K mg base k N (blkS scope sc) WF vx me) (his : ∀ i ∈ is, i ∈ own.map (·.2) := by decide) (hs : ∀ env x, foldedSetIterable iter env x = pure x := by intro _ _; rfl) :
    PN P wd K mg base k N sc W (.DictComp kx vx [⟨tg, iter, ifs, 0⟩] scope pos) (eDc (own.map (·.2)) mi mg' mt mk me) := by
  obtain ⟨ti, pi, ri⟩ := hi
  obtain ⟨tg', pg, rg⟩ := hg
  obtain ⟨tt, pt, rt⟩ := ht
  obtain ⟨tk, pk, rk⟩ := hkk
  obtain ⟨te, pe, re⟩ := he
  exact ⟨_, fun X g => pe_dc g.calm (by rw [g.nn]; exact nd) (pi X g) (by rw [g.nn, g.scp]; exact ok) (fun s H C cl fp => pg _ (g_blk g)) (fun s H C cl fp => pt _ (g_blk g)) (fun s H C cl fp => pk _ (g_blk g)) (fun s H C cl fp => pe _ (g_blk g)) (hs X.env), rtn_dc ri rg his rt rk re⟩
theorem pr_dc {kx vx tg iter : Expr} {ifs : List Expr} {scope : Scope} {own : List (Str × Nat)} {pos : Pos} {mi mt mk me : EM} {mg' : GM} {is : List Nat} (nd : N.Nodup) (ok : BlkOk N sc.s scope own) (hi : PIt P wd K mg base k N sc W tg iter mi) (hg : PGt P wd K mg base k N (blkS scope sc) WF tg mg' is)
    (ht : PTj P wd K mg base k N (blkS scope sc) WF ifs mt) (hkk : PR P wd K mg base k N (blkS scope sc) WF kx mk) (he : PR P wd K mg base k N (blkS scope sc) WF vx me) (his : ∀ i ∈ is, i ∈ own.map (·.2) := by decide) (hs : ∀ env x, foldedSetIterable iter env x = pure x := by intro _ _; rfl) :
    PR P wd K mg base k N sc W (.DictComp kx vx [⟨tg, iter, ifs, 0⟩] scope pos) (eDc (own.map (·.2)) mi mg' mt mk me) := (pn_dc nd ok hi hg ht hkk he his hs).fz isNew_dc
end
end DL
namespace DL
open PySem L2
/-! ### sorted texts -/
def leS (a b : Str) : Bool := !PySem.Spec.ltCps b.cps.toList a.cps.toList
def srtS (xs : List Str) : List Str := xs.mergeSort leS
theorem leS_iff {a b : Str} : leS a b = true ↔ ¬ b.cps.toList < a.cps.toList := by
  unfold leS
  rw [PyProof.Rows.ltCps_eq]
  simp
theorem leS_trans (a b c : Str) (h : leS a b = true) (h' : leS b c = true) : leS a c = true := by
  rw [leS_iff, List.not_lt] at *
  exact List.le_trans h h'
theorem leS_total (a b : Str) : (leS a b || leS b a) = true := by
  by_cases h : leS a b = true
  · rw [h]; rfl
  · have h' : b.cps.toList < a.cps.toList := by
      rw [leS_iff] at h
      exact Classical.not_not.mp h
    have : leS b a = true := by
      rw [leS_iff]
      exact fun z => List.lt_irrefl _ (List.lt_trans h' z)
    rw [this, Bool.or_true]
theorem leS_anti (a b : Str) (h : leS a b = true) (h' : leS b a = true) : a = b := by
  rw [leS_iff, List.not_lt] at h h'
  have := List.le_antisymm h h'
  obtain ⟨⟨x⟩⟩ := a
  obtain ⟨⟨y⟩⟩ := b
  simp at this
  subst this; rfl
theorem srtS_perm (xs : List Str) : (srtS xs).Perm xs := List.mergeSort_perm xs leS
theorem srtS_sorted (xs : List Str) : (srtS xs).Pairwise (fun a b => leS a b = true) := List.pairwise_mergeSort leS_trans leS_total xs
theorem rising_pw : ∀ (l : List Str) (p : Str), PyProof.Rows.risingS p l = true → (p :: l).Pairwise (fun a b => leS a b = true)
  | [], p, _ => by simp
  | x :: r, p, h => by
    unfold PyProof.Rows.risingS at h
    simp only [Bool.and_eq_true] at h
    have ih := rising_pw r x h.2
    have hp : leS p x = true := h.1
    refine List.pairwise_cons.mpr ⟨fun y hy => ?_, ih⟩
    rcases List.mem_cons.mp hy with rfl | hy
    · exact hp
    · exact leS_trans _ _ _ hp ((List.pairwise_cons.mp ih).1 y hy)
theorem sorted_pw {l : List Str} (h : PyProof.Rows.sortedS l = true) : l.Pairwise (fun a b => leS a b = true) := by
  cases l with
  | nil => exact .nil
  | cons x r => exact rising_pw r x h
theorem sorted_is {xs ys : List Str} (p : ys.Perm xs) (h : PyProof.Rows.sortedS ys = true) : ys = srtS xs :=
  List.Perm.eq_of_pairwise (fun a b _ _ x y => leS_anti a b x y) (sorted_pw h) (srtS_sorted xs) (p.trans (srtS_perm xs).symm)
section
variable {P : Program} {wd : World} {K : PySem.W.Frag} {mg : Str → Option Value} {base : Heap} {k : Nat} {N : List Str} {sc : SC} {W : WX}
def keyTs : List (Key × D) → Option (List Str)
  | [] => some []
  | (.inr x, _) :: r => (keyTs r).map (x :: ·)
  | _ => none
theorem keyTs_of : ∀ {kvs : List (Key × D)} {ks : List Str}, keyTs kvs = some ks → kvs.map (·.1) = ks.map Sum.inr
  | [], ks, h => by cases h; rfl
  | (.inr x, d) :: r, ks, h => by
    unfold keyTs at h
    cases e : keyTs r with
    | none => rw [e] at h; cases h
    | some js => rw [e] at h; cases h; simp [keyTs_of e]
  | (.inl _, _) :: _, ks, h => by cases h
def bSorted : List D → Store → ER
  | [.lst xs], st => match strsOf xs with
    | some ys => if ys.length < 64 then .ok (.lst ((srtS ys).map .str)) st else .no
    | none => .no
  | [.dct kvs], st => match keyTs kvs with
    | some ys => if ys.length < 64 then .ok (.lst ((srtS ys).map .str)) st else .no
    | none => .no
  | _, _ => .no
theorem repL_strs {w : Wd} (ys : List Str) : RepL K w (ys.map V.str) (ys.map D.str) := RepL.of_map (fun _ => .str) ys
theorem cd_sorted : CallD K (fun xs H Q => rSortedS K xs H Q ∨ ∃ (a : Addr) (kvs : List (Key × V)) (ks : List Str), xs = [.ref a] ∧ Rd H a (.dK kvs) ∧ kvs.map (·.1) = ks.map Sum.inr ∧ ks.length < 64 ∧ ∀ ys p, ys.Perm ks → PyProof.Rows.sortedS ys = true → H p = none → Q (.ref p) (upd H p (.lst (ys.map V.str)))) bSorted := fun w vs ds Q E k v p => by
  unfold bSorted at p
  split at p
  · obtain ⟨x, rfl, a, us, rfl, m, r⟩ := v.one
    split at p
    · rename_i ys hy
      obtain ⟨hl, p⟩ := PostE.ite p
      have e := strsOf_rep hy r
      subst e
      exact .inl ⟨a, ys, rfl, SqL.of m, hl, fun zs l hp hs hn => by
        have e := sorted_is hp hs
        subst e
        exact p.lst rfl k (repL_strs _) l hn⟩
    · exact p.elim
  · obtain ⟨x, rfl, a, us, rfl, m, r⟩ := v.one
    split at p
    · rename_i ys hy
      obtain ⟨hl, p⟩ := PostE.ite p
      exact .inr ⟨a, us, ys, rfl, m, r.1.trans (keyTs_of hy), hl, fun zs l hp hs hn => by
        have e := sorted_is hp hs
        subst e
        exact p.lst rfl k (repL_strs _) l hn⟩
    · exact p.elim
  · exact p.elim
theorem pr_sorted {e : Expr} {ms : EM} {p pos : Pos} (hm : mg "sorted" = none) (ha : PAb P wd K mg base k N sc W [e] ms) (hg : sc.s.names.lookup ("sorted" : Str) = some .globalImplicit := by rfl) (he : ∀ env, starEach [e] env = (false, eval e env) :: starEach [] env := by intro _; rfl) :
    PR P wd K mg base k N sc W (.Call (.Name "sorted" p) [e] [] pos) (eB bSorted ms) :=
  pr_B (id := "sorted") (fun X g => CallR.or (by have := cr_sortedS (X := X); rw [g.kk] at this; exact this) (call_sortedD g.calm)) cd_sorted hm (by decide +kernel) ha hg (by decide) (by decide) he (fun _ => rfl)
/-! ### list(dict), dict(dict) -/
def bListX : List D → Store → ER
  | [.lst xs], st => .ok (.lst xs) st
  | [.tup xs], st => .ok (.lst xs) st
  | [.scr ns], st => .ok (.lst (ns.map .int)) st
  | [.dct kvs], st => .ok (.lst (kvs.map fun p => kD p.1)) st
  | _, _ => .no
theorem repP_keys {w : Wd} {vs : List (Key × V)} {xs : List (Key × D)} (r : RepP K w vs xs) : RepL K w (vs.map fun kv => kV kv.1) (xs.map fun p => kD p.1) := by
  have e : (vs.map fun kv => kV kv.1) = (xs.map fun p => kV p.1) := by
    have h1 : (vs.map fun kv => kV kv.1) = (vs.map (·.1)).map kV := by rw [List.map_map]; rfl
    have h2 : (xs.map fun kv => kV kv.1) = (xs.map (·.1)).map kV := by rw [List.map_map]; rfl
    rw [h1, h2, r.1]
  rw [e]
  exact RepL.of_map (fun p => rep_kV p.1) xs
theorem cd_listX : CallD K (fun xs H Q => (∃ p ys, xs = [.ref p] ∧ (SqL K H p ys ∨ SqT K H p ys) ∧ ∀ l, H l = none → Q (.ref l) (upd H l (.lst ys))) ∨ ∃ (a : Addr) (kvs : List (Key × V)), xs = [.ref a] ∧ Rd H a (.dK kvs) ∧ ∀ p, H p = none → Q (.ref p) (upd H p (.lst (kvs.map fun kv => kV kv.1)))) bListX := fun w vs ds Q E k v p => by
  unfold bListX at p
  split at p
  · obtain ⟨x, rfl, a, us, rfl, h, r⟩ := v.one; exact .inl ⟨_, _, rfl, .inl (SqL.of h), fun l hl => p.lst rfl k r l hl⟩
  · obtain ⟨x, rfl, a, us, rfl, h, r⟩ := v.one; exact .inl ⟨_, _, rfl, .inr h, fun l hl => p.lst rfl k r l hl⟩
  · obtain ⟨x, rfl, a, rfl, h⟩ := v.one; exact .inl ⟨_, _, rfl, .inl h, fun l hl => p.lst rfl k (repL_ints _) l hl⟩
  · obtain ⟨x, rfl, a, us, rfl, h, r⟩ := v.one; exact .inr ⟨_, _, rfl, h, fun l hl => p.lst rfl k (repP_keys r) l hl⟩
  · exact p.elim
theorem pr_listx {e : Expr} {ms : EM} {p pos : Pos} (hm : mg "list" = none) (ha : PAb P wd K mg base k N sc W [e] ms) (hg : sc.s.names.lookup ("list" : Str) = some .globalImplicit := by rfl) (he : ∀ env, starEach [e] env = (false, eval e env) :: starEach [] env := by intro _; rfl) :
    PR P wd K mg base k N sc W (.Call (.Name "list" p) [e] [] pos) (eB bListX ms) :=
  pr_Ty (T := "list") (fun X g => CallR.or (by have := call_list_of (X := X); rw [g.kk] at this; exact this) (call_listD g.calm)) cd_listX hm (by decide +kernel) ha hg (by decide) (by decide) he (fun _ => rfl)
def bDictX : List D → Store → ER
  | [.lst xs], st => match pairsD xs with
    | some ps => .ok (.dct (mergeD [] ps)) st
    | none => .no
  | [.dct kvs], st => .ok (.dct kvs) st
  | _, _ => .no
theorem cn_dictX : CallN K (fun xs H Q => (∃ (a : Addr) (ps : List Addr) (kvs : List (Key × V)), xs = [.ref a] ∧ SqL K H a (ps.map V.ref) ∧ Paired (fun p kv => SqT K H p [kV kv.1, kv.2]) ps kvs ∧
    ∀ p, H p = none → Q (.ref p) (upd H p (.dK (mergeK [] kvs)))) ∨ ∃ (a : Addr) (kvs : List (Key × V)), xs = [.ref a] ∧ Rd H a (.dK kvs) ∧ ∀ p, H p = none → Q (.ref p) (upd H p (.dK kvs))) bDictX := fun w vs ds Q E k v p => by
  unfold bDictX at p
  split at p
  · rename_i xs
    obtain ⟨x, rfl, a, us, rfl, m, r⟩ := v.one
    cases h : pairsD xs with
    | none => rw [h] at p; exact p.elim
    | some ps =>
      rw [h] at p
      obtain ⟨as, kvs, rfl, h1, h2⟩ := pairs_rep k r h
      exact .inl ⟨a, as, kvs, rfl, SqL.of m, h1, fun l hl => PostN.al p k hl ⟨_, rfl, repP_merge h2 .nil⟩⟩
  · obtain ⟨x, rfl, a, us, rfl, m, r⟩ := v.one
    exact .inr ⟨a, us, rfl, m, fun l hl => PostN.al p k hl ⟨_, rfl, r⟩⟩
  · exact p.elim
theorem pn_dictx {e : Expr} {ms : EM} {p pos : Pos} (hm : mg "dict" = none) (ha : PAb P wd K mg base k N sc W [e] ms) (hg : sc.s.names.lookup ("dict" : Str) = some .globalImplicit := by rfl) (he : ∀ env, starEach [e] env = (false, eval e env) :: starEach [] env := by intro _; rfl) :
    PN P wd K mg base k N sc W (.Call (.Name "dict" p) [e] [] pos) (eB bDictX ms) :=
  pn_Ty (T := "dict") (fun X g => CallR.or (by have := call_dictP (X := X) g.calm; rw [g.kk] at this; exact this) call_dictD) cn_dictX hm (by decide +kernel) ha hg (by decide) (by decide) he (fun _ => rfl)
theorem pr_dictx {e : Expr} {ms : EM} {p pos : Pos} (hm : mg "dict" = none) (ha : PAb P wd K mg base k N sc W [e] ms) (hg : sc.s.names.lookup ("dict" : Str) = some .globalImplicit := by rfl) (he : ∀ env, starEach [e] env = (false, eval e env) :: starEach [] env := by intro _; rfl) :
    PR P wd K mg base k N sc W (.Call (.Name "dict" p) [e] [] pos) (eB bDictX ms) := (pn_dictx hm ha hg he).fz (eB_new fun ds st d s h => by
  unfold bDictX at h
  split at h
  · split at h
    · cases h; trivial
    · cases h
  · cases h; trivial
  · cases h)
/-! ### texts, reversed lists, ranges downwards -/
def oStarts : D → D → Store → ER
  | .str a, .str b, st => .ok (.bl (Txt.startswith a b)) st
  | _, _, _ => .no
theorem pr_startswith {o e : Expr} {mo me : EM} {apos pos : Pos} (ho : PR P wd K mg base k N sc W o mo) (he : PB P wd K mg base k N sc W e me) (hs : ∀ env, starEach [e] env = [(false, eval e env)] := by intro _; rfl) (hbase : ∀ env, attributeBase o "startswith" env (eval o env) = eval o env := by intro _; rfl) (hline : (apos.endLine == pos.line) = true := by rfl) :
    PR P wd K mg base k N sc W (.Call (.Attribute o "startswith" apos) [e] [] pos) (eM1 oStarts mo me) :=
  pr_m1 PySem.F.slot_str_startswith PySem.F.type_str_startswith (fun X g => mt_startswith) (fun w x y dx dy Q E k vx vy p => by
    cases dx <;> cases dy <;> try exact p.elim
    case str.str a b => obtain rfl := vx; obtain rfl := vy; exact ⟨a, b, rfl, rfl, p.now k .bl⟩) ho he hs hbase hline
def eRev (mo : EM) : EM := fun Γ st => (mo Γ st).bind fun d s => match deref s d with
  | .lst xs => .ok (.lst xs.reverse) s
  | _ => .no
theorem pr_rev {e : Expr} {mo : EM} {j : Nat} {p1 p2 p3 pos : Pos} (he : PB P wd K mg base k N sc W e mo) : PR P wd K mg base k N sc W (.Subscript e (.Slice none none (some (.UnaryOp .USub (.Constant (.int 1) j p1) p2)) p3) pos) (eRev mo) := by
  obtain ⟨t, p, r⟩ := he
  refine ⟨tRevL K t, fun X g => by have := pe_revL (k := j) (p1 := p1) (p2 := p2) (p3 := p3) (pos := pos) (p X g); rw [g.kk] at this; exact this, ?_⟩
  intro H0 w Γ σ ok f0 Q q
  refine RB.use (P := fun w r => PostE K w r Q (at_ W σ)) r ok f0 (fun _ _ e k p => p.shift e k) (fun _ _ p => p) (fun p => p) q fun d v w1 e1 k1 f1 r1 p1 => ?_
  have vw := r1.vw k1 f1
  revert vw p1
  cases deref w1.st d with
  | lst xs => intro p1 vw; obtain ⟨a, vs, rfl, hH, rl⟩ := vw; exact ⟨a, vs, rfl, SqL.of hH, fun l hl => p1.lst rfl k1 rl.rev l hl⟩
  | _ => intro p1 _; exact p1.elim
def eRngD (ms : EM) : EM := fun Γ st => (ms Γ st).bind fun d s => match d with
  | .tup [.int i, .int j, .int (-1)] => if -4611686018427387904 ≤ i ∧ i < 4611686018427387904 ∧ -4611686018427387904 ≤ j ∧ j < 4611686018427387904 then .ok (.tup (rng i (-1) (i - j).toNat)) s else .no
  | _ => .no
theorem pi_rngD {tg a b c : Expr} {ms : EM} {p pos : Pos} (hm : mg "range" = none) (ha : PAr P wd K mg base k N sc W [a, b, c] ms) (hg : sc.s.names.lookup ("range" : Str) = some .globalImplicit := by rfl)
    (hs : ∀ env, starEach [a, b, c] env = (false, eval a env) :: starEach [b, c] env := by intro _; rfl) (hpl : ∀ env, (backTo pos (starEach [b, c] env)).any (·.1) = false := by intro _; rfl) :
    PIt P wd K mg base k N sc W tg (.Call (.Name "range" p) [a, b, c] [] pos) (eRngD ms) := by
  obtain ⟨t, pt, r⟩ := ha
  refine ⟨_, fun X g => pi_range3 (by unfold Gl PySem.Env.kindOf; rw [g.scp]; exact hg) (by rw [g.mg]; exact hm) (pt X g) (hs X.env) (hpl X.env), ?_⟩
  intro H0 w Γ σ ok f R q
  refine RTA.use (P := fun w r => PostI K w r R (at_ W σ)) r ok f (fun _ _ e k p => p.shift e k) (fun _ _ p => p) (fun p => p) (fun d st hb => by cases d <;> first | rfl | exact absurd rfl (hb _)) q fun ds vs w1 e1 k1 f1 r1 p1 => ?_
  split at p1
  · rename_i i j heq
    cases heq
    obtain ⟨v, us, rfl, rv, ru⟩ := r1.inv
    obtain ⟨v2, us2, rfl, rv2, ru2⟩ := ru.inv
    obtain ⟨v3, us3, rfl, rv3, ru3⟩ := ru2.inv
    rw [ru3.inv0]
    cases rv; cases rv2; cases rv3
    by_cases h : -4611686018427387904 ≤ i ∧ i < 4611686018427387904 ∧ -4611686018427387904 ≤ j ∧ j < 4611686018427387904
    · rw [if_pos h] at p1
      exact ⟨i, j, -1, (i - j).toNat, rfl, RgC.neg h.1 h.2.1 h.2.2.1 h.2.2.2, p1 _ w1 (Evo.refl w1) k1 rfl itr_rngC⟩
    · rw [if_neg h] at p1; exact p1.elim
  · exact p1.elim
end
end DL
namespace DL
open PySem L2
/-! ### a class's defs, by their names -/
/-- the def that an object of the class finds under the name -/
def cM (K : PySem.W.Frag) (C : String) (m : Str) : Addr := match PySem.W.findIn K (.ref (cA K C)) m with
  | some (some (.ref f)) => f
  | _ => 0
/-- the def behind a property -/
def cG (K : PySem.W.Frag) (C : String) (m : Str) : Addr := match PySem.W.recIn K (cM K C m) "property" with
  | some (.ref g :: _) => g
  | _ => 0
structure FnA (P : Program) (wd : World) (K : PySem.W.Frag) (mg : Str → Option Value) (base : Heap) (k : Nat) (f : Addr) (F : DF) : Prop where
  ex : ∃ (fd : FuncData) (ps : List Str), FnG P wd K mg base k f fd ps (spD K F) ∧ Binds K fd ps []
def HM (K : PySem.W.Frag) (x qual : Str) (st : Stmt) (f : Addr) : Prop := ∃ fd : FuncData, Fun K x qual st f fd
section
variable {P : Program} {wd : World} {K : PySem.W.Frag} {mg : Str → Option Value} {base : Heap} {k : Nat} {N : List Str}
theorem fn_okM {x qual : Str} {st : Stmt} {ps : List Str} {m : SM} {f : Addr} (h : HM K x qual st f) (S : FnScope N ps (defScope st)) (hb : ∀ (kV doc pm : Value) (an : Option Addr) (cdv ct : Value) (us : List Value), us.length = ps.length → bindArgs (PySem.W.fnOf x qual (defArgs st) (defBody st) (defScope st) .none kV doc pm an cdv ct) ⟨us, []⟩ = pure (ps.zip us))
    (b : ∀ W : WX, PSl P wd K mg base k N ⟨defScope st, fun _ => true⟩ W (defBody st) m) : FnA P wd K mg base (k + 1) f (run N ps m) := by
  obtain ⟨fd, F⟩ := h
  exact ⟨fd, ps, def_ok F S b, F.binds hb⟩
theorem FnA.mono {j : Nat} {f : Addr} {F : DF} (h : FnA P wd K mg base j f F) (hj : j ≤ k) : FnA P wd K mg base k f F :=
  let ⟨fd, ps, a, b⟩ := h.ex; ⟨fd, ps, a.mono hj, b⟩
theorem FnA.bot {x qual : Str} {st : Stmt} {ps : List Str} {f : Addr} (h : HM K x qual st f) (hb : ∀ (kV doc pm : Value) (an : Option Addr) (cdv ct : Value) (us : List Value), us.length = ps.length → bindArgs (PySem.W.fnOf x qual (defArgs st) (defBody st) (defScope st) .none kV doc pm an cdv ct) ⟨us, []⟩ = pure (ps.zip us)) : FnA P wd K mg base k f Dbot := by
  obtain ⟨fd, F⟩ := h
  refine ⟨fd, ps, ⟨fun vs H Q E h => ?_, fun {A outer s H args us vs Q E} _ _ _ _ h => ?_⟩, F.binds hb⟩
  · obtain ⟨_, _, _, _, _, p⟩ := h; exact p.elim
  · obtain ⟨_, _, _, _, _, p⟩ := h; exact p.elim
theorem methOK {C : String} {m : Str} {f : Addr} {F : DF} {i : Nat} (c : Cls K (cA K C)) (h : Meth K (cA K C) m f) (a : FnA P wd K mg base i f F) (hi : i ≤ k := by omega) : MethOK P wd K mg base k C m F :=
  let ⟨fd, ps, a, b⟩ := a.ex; ⟨c, f, fd, ps, a.mono hi, h, b⟩
theorem propOK {C : String} {m : Str} {f p : Addr} {F : DF} {i : Nat} (c : Cls K (cA K C)) (h : PropOf K (cA K C) m p f) (a : FnA P wd K mg base i f F) (hi : i ≤ k := by omega) : PropOK P wd K mg base k C m F :=
  let ⟨fd, ps, a, b⟩ := a.ex; ⟨c, f, p, fd, ps, a.mono hi, h, b⟩
theorem makeOK {C : String} {f : Addr} {F : DF} {i : Nat} (at_ : mg (Str.ofString C) = some (.ref (cA K C))) (h : Mk K (cA K C) f) (a : FnA P wd K mg base i f F) (hi : i ≤ k := by omega) : MakeOK P wd K mg base k C F :=
  let ⟨fd, ps, a, b⟩ := a.ex; ⟨at_, f, fd, ps, a.mono hi, h, b⟩
theorem all_nil {R : String × DF → Prop} : ∀ p ∈ ([] : List (String × DF)), R p := fun _ h => by simp at h
theorem all_cons {R : String × DF → Prop} {C : String} {F : DF} {tab : List (String × DF)} (h : R (C, F)) (t : ∀ p ∈ tab, R p) : ∀ p ∈ (C, F) :: tab, R p := fun p hp => by
  rcases List.mem_cons.mp hp with rfl | hp
  · exact h
  · exact t p hp
theorem fld_nil {R : String → Prop} : ∀ C ∈ ([] : List String), R C := fun _ h => by simp at h
theorem fld_cons {R : String → Prop} {C : String} {cs : List String} (h : R C) (t : ∀ C ∈ cs, R C) : ∀ D ∈ C :: cs, R D := fun p hp => by
  rcases List.mem_cons.mp hp with rfl | hp
  · exact h
  · exact t p hp
variable {sc : SC} {W : WX}
/-- a class as a value -/
theorem pr_cls {C : String} {pos : Pos} (hm : mg (Str.ofString C) = some (.ref (cA K C))) (hg : sc.s.names.lookup (Str.ofString C) = some .globalImplicit := by rfl) (hd : (Str.ofString C == ("__debug__" : Str)) = false := by decide) : PR P wd K mg base k N sc W (.Name (Str.ofString C) pos) (eC (.cls C)) :=
  pr_glob (v := .ref (cA K C)) ⟨_, hm, rfl⟩ (fun _ => .cls) hg hd
theorem cM_of {C : String} {m : Str} {c f : Addr} (hc : cA K C = c) (h : PySem.W.findIn K (.ref c) m = some (some (.ref f))) : cM K C m = f := by unfold cM; rw [hc, h]
theorem cG_of {C : String} {m : Str} {c p g : Addr} {rest : List Value} (hc : cA K C = c) (h : PySem.W.findIn K (.ref c) m = some (some (.ref p))) (hr : PySem.W.recIn K p "property" = some (.ref g :: rest)) : cG K C m = g := by unfold cG; rw [cM_of hc h, hr]
end
end DL
namespace DL
open PySem L2
section
variable {Γ : DEnv} {st : Store} {ma mo me ms : EM} {d : D}
@[simp] theorem bListX_l {xs : List D} : bListX [.lst xs] st = .ok (.lst xs) st := rfl
@[simp] theorem bListX_t {xs : List D} : bListX [.tup xs] st = .ok (.lst xs) st := rfl
@[simp] theorem bListX_d {xs : List (Key × D)} : bListX [.dct xs] st = .ok (.lst (xs.map fun p => kD p.1)) st := rfl
@[simp] theorem bDictX_l {xs : List D} : bDictX [.lst xs] st = (match pairsD xs with | some ps => .ok (.dct (mergeD [] ps)) st | none => .no) := rfl
@[simp] theorem bDictX_d {xs : List (Key × D)} : bDictX [.dct xs] st = .ok (.dct xs) st := rfl
@[simp] theorem oStarts_ap {a b : Str} : oStarts (.str a) (.str b) st = .ok (.bl (Txt.startswith a b)) st := rfl
@[simp] theorem eRev_ap : eRev mo Γ st = (mo Γ st).bind fun d s => match deref s d with | .lst xs => .ok (.lst xs.reverse) s | _ => .no := rfl
@[simp] theorem eChain_ap {f g : D → D → Store → ER} {mb mc : EM} : eChain f g ma mb mc Γ st = (ma Γ st).bind fun x s1 => (mb Γ s1).bind fun y s2 => (f (deref s2 x) (deref s2 y) s2).bind fun z s3 => match z with
  | .bl true => (mc Γ s3).bind fun u s4 => g (deref s4 y) (deref s4 u) s4
  | .bl false => .ok (.bl false) s3
  | _ => .no := rfl
@[simp] theorem eFld_ap {cs : List String} {f : Str} : eFld cs f mo Γ st = (mo Γ st).bind fun o s => match deref s o with
  | .ins C fs => if C ∈ cs then (match fs.lookup f with | some d => .ok d s | none => .no) else .no
  | _ => .no := rfl
@[simp] theorem sFldR_ap {cs : List String} {f : Str} : sFldR cs f mo me Γ st = (me Γ st).bs Γ fun x s1 => (mo Γ s1).bs Γ fun o s2 => match o with
  | .ref l => match s2[l]? with
    | some (.ins C fs) => if C ∈ cs ∧ fs.length < 1000 then .nx Γ (s2.set l (.ins C (putFD f x fs))) else .no
    | _ => .no
  | _ => .no := rfl
@[simp] theorem eMeth_ap {p : String × DF} {tab : List (String × DF)} {m : Str} : eMeth (p :: tab) m mo ms Γ st = (mo Γ st).bind fun o s1 => match deref s1 o with
  | .ins C fs => if (fs.lookup m).isNone = true then (match (p :: tab).lookup C with
      | some F => (ms Γ s1).bind fun d s2 => match d with | .tup ds => F (o :: ds) s2 | _ => .no
      | none => .no) else .no
  | _ => .no := by
  unfold eMeth
  exact if_neg (by simp)
@[simp] theorem eProp_ap {p : String × DF} {tab : List (String × DF)} : eProp (p :: tab) mo Γ st = (mo Γ st).bind fun o s1 => match deref s1 o with
  | .ins C _ => (match (p :: tab).lookup C with
      | some F => (match F [o] s1 with | .ok d s2 => .ok d s2 | _ => .no)
      | none => .no)
  | _ => .no := by
  unfold eProp
  exact if_neg (by simp)
@[simp] theorem eMake_ap {C : String} {F : DF} : eMake C F ms Γ st = (ms Γ st).bind fun d s => match d with
  | .tup ds => (match F (.ref s.length :: ds) (s ++ [.ins C []]) with
    | .ok .non s2 => (match s2[s.length]? with | some (.ins C' fs) => .ok (.ins C' fs) (s2.set s.length .tomb) | _ => .no)
    | .err x s2 => .err x s2
    | _ => .no)
  | _ => .no := rfl
@[simp] theorem eMakeR_ap {C : String} {F : DF} : eMakeR C F ms Γ st = (ms Γ st).bind fun d s => match d with
  | .tup ds => (match F (.ref s.length :: ds) (s ++ [.ins C []]) with
    | .ok .non s2 => .ok (.ref s.length) s2
    | .err x s2 => .err x s2
    | _ => .no)
  | _ => .no := rfl
end
theorem eRngD_i {ma : EM} {Γ : DEnv} {st s : Store} {i j : Int} (h : ma Γ st = .ok (.tup [.int i, .int j, .int (-1)]) s) (hi : -4294967296 < i ∧ i < 4294967296) (hj : -4294967296 < j ∧ j < 4294967296) : eRngD ma Γ st = .ok (.tup (rng i (-1) (i - j).toNat)) s := by
  unfold eRngD
  rw [h, ok_bind]
  exact if_pos (by omega)
theorem eDc_of {vs : List Nat} {mi mt mk me : EM} {g : GM} {Γ : DEnv} {st s : Store} {ds : List D} (h : mi Γ st = .ok (.tup ds) s) : eDc vs mi g mt mk me Γ st = dcL g mt mk me ds (wipeE Γ vs) s [] := by
  unfold eDc
  rw [h]; rfl
theorem atI_of {α : Type} {l : List α} {k : Int} (h0 : 0 ≤ k) (h1 : k < l.length) : ∃ x, L2.atI l k = some x ∧ x ∈ l := by
  have h3 : k.toNat < l.length := by omega
  refine ⟨l[k.toNat], ?_, List.getElem_mem h3⟩
  unfold L2.atI ixN
  simp [h0, h1]
theorem gd_lit {n L : Nat} {x : Str} (h : Cs x) (hl : 10 * x.length + 2 ≤ L) : Gd n L (.str x) := (gd_str h hl).mono (Nat.zero_le _) (Nat.le_refl _)
theorem pyL_strs : ∀ ns : List Str, D.pyL (ns.map .str) = some (ns.map PyData.str)
  | [] => rfl
  | n :: ns => by simp [D.pyL, D.py, pyL_strs ns]
theorem strOk_of {x : Str} (h : ∀ c ∈ x.cps.toList, c < 1114112) : PyData.strOk x = true := by
  unfold PyData.strOk
  rw [← Array.all_toList, List.all_eq_true]
  exact fun c hc => decide_eq_true (h c hc)
theorem shaped_strs (ns : List Str) (hs : ∀ n ∈ ns, PyData.strOk n = true) : SeqAt.shaped (.list (ns.map PyData.str)) = true := by
  have h1 : ∀ ns : List Str, (∀ n ∈ ns, PyData.strOk n = true) → PyData.canLayAll0 (ns.map PyData.str) = true := fun ns => by
    induction ns with
    | nil => intro _; rfl
    | cons n ns ih => intro h; simp [PyData.canLayAll0, PyData.canLay0, ih fun y hy => h y (List.mem_cons_of_mem _ hy), h n List.mem_cons_self]
  have h1 := h1 ns hs
  have h2 : ∀ ns : List Str, PyData.depthAll (ns.map PyData.str) = 0 := fun ns => by induction ns with | nil => rfl | cons n ns ih => simp [PyData.depthAll, PyData.depth, ih]
  simp [SeqAt.shaped, PyData.canLay0, h1, PyData.depth, h2]
theorem dEq_strs_nil (ns : List Str) (hs : ∀ n ∈ ns, PyData.strOk n = true) : dEq (.lst (ns.map .str)) (.lst []) = some ns.isEmpty := by
  have h := shaped_strs ns hs
  have h0 : SeqAt.shaped (.list []) = true := by decide
  cases ns with
  | nil => simp [dEq, sclEq, pyEq, D.py, D.pyL, h0, PyData.eqv, PyData.eqvAll]
  | cons n ns =>
    rw [List.map_cons] at h
    simp [dEq, sclEq, pyEq, D.py, D.pyL, pyL_strs, h, h0, PyData.eqv, PyData.eqvAll]
theorem flDs_strs : ∀ ys : List Str, flDs (ys.map .str) = some (ys.map V.str)
  | [] => rfl
  | y :: ys => by simp [flDs, flD, flDs_strs ys]
theorem inD_strs (x : Str) (ys : List Str) : inD (.str x) (.lst (ys.map .str)) = some (decide (x ∈ ys)) := by
  unfold inD
  simp only [flD, flDs_strs]
  congr 1
  unfold inV
  rw [List.any_map]
  rw [Bool.eq_iff_iff]
  simp [eqV]
theorem cut_hi (x : Str) (z : Nat) : (cutS x none (some (z : Int))).length ≤ z := by
  rw [len_toList]
  unfold cutS
  rw [HT.sIx_nat]
  simp only [HT.sIx_none, List.length_take, List.length_drop]
  omega
theorem cut_take (x : Str) (z : Nat) : (cutS x none (some (z : Int))).cps.toList = x.cps.toList.take z := by
  unfold cutS
  rw [HT.sIx_nat, HT.sIx_none]
  have : x.length = x.cps.toList.length := len_toList x
  simp [this]
theorem str_ext {x y : Str} (h : x.cps.toList = y.cps.toList) : x = y := TL.ext_tl h
/-! ### dicts of texts to ints -/
def F (kvs : List (Str × Int)) : List (Key × D) := kvs.map fun p => (.inr p.1, .int p.2)
theorem F_put (acc : List (Str × Int)) (k : Str) (v : Int) (nd : (acc.map (·.1)).Nodup) : ∃ kvs, putD (F acc) (.inr k) (.int v) = F kvs ∧ (kvs.map (·.1)).Nodup ∧ (∀ q, q ∈ kvs.map (·.1) ↔ (q = k ∨ q ∈ acc.map (·.1))) ∧ kvs.length ≤ acc.length + 1 := by
  have e : ((F acc).any fun kv => decide (kv.1 = Sum.inr k)) = decide (k ∈ acc.map (·.1)) := by
    unfold F
    rw [List.any_map, Bool.eq_iff_iff]
    simp
  unfold putD
  rw [e]
  by_cases h : k ∈ acc.map (·.1)
  · rw [if_pos (decide_eq_true h)]
    refine ⟨acc.map fun p => if p.1 = k then (p.1, v) else p, ?_, ?_, ?_, by simp⟩
    · unfold F
      rw [List.map_map, List.map_map]
      refine List.map_congr_left fun p _ => ?_
      simp only [Function.comp]
      by_cases z : p.1 = k
      · simp [z]
      · have : ¬ ((Sum.inr p.1 : Key) = Sum.inr k) := fun q => z (Sum.inr.inj q)
        simp [z, this]
    · have : (acc.map fun p => if p.1 = k then (p.1, v) else p).map (·.1) = acc.map (·.1) := by
        rw [List.map_map]
        refine List.map_congr_left fun p _ => ?_
        simp only [Function.comp]; split <;> rfl
      rw [this]; exact nd
    · have : (acc.map fun p => if p.1 = k then (p.1, v) else p).map (·.1) = acc.map (·.1) := by
        rw [List.map_map]
        refine List.map_congr_left fun p _ => ?_
        simp only [Function.comp]; split <;> rfl
      intro q
      rw [this]
      exact ⟨.inr, fun z => z.elim (fun z => z ▸ h) id⟩
  · rw [if_neg (by simpa using h)]
    refine ⟨acc ++ [(k, v)], by simp [F], ?_, fun q => ?_, by simp⟩
    · rw [List.map_append]
      exact List.nodup_append.mpr ⟨nd, by simp, fun a ha b hb => by simp at hb; subst hb; exact fun z => h (z ▸ ha)⟩
    · rw [List.map_append, List.mem_append]
      simp [or_comm]
theorem F_merge : ∀ (ps acc : List (Str × Int)), (acc.map (·.1)).Nodup → ∃ kvs, mergeD (F acc) (F ps) = F kvs ∧ (kvs.map (·.1)).Nodup ∧ (∀ q, q ∈ kvs.map (·.1) ↔ (q ∈ ps.map (·.1) ∨ q ∈ acc.map (·.1))) ∧ kvs.length ≤ acc.length + ps.length
  | [], acc, nd => ⟨acc, rfl, nd, fun q => by simp, by simp⟩
  | (k, v) :: ps, acc, nd => by
    obtain ⟨a2, e, nd2, m2, l2⟩ := F_put acc k v nd
    obtain ⟨kvs, h1, h2, h3, h4⟩ := F_merge ps a2 nd2
    refine ⟨kvs, ?_, h2, fun q => ?_, by simp; omega⟩
    · show mergeD (putD (F acc) (.inr k) (.int v)) (F ps) = _
      rw [e]; exact h1
    · rw [h3 q, m2 q]
      simp only [List.map_cons, List.mem_cons]
      constructor
      · rintro (h | h | h)
        · exact .inl (.inr h)
        · exact .inl (.inl h)
        · exact .inr h
      · rintro ((h | h) | h)
        · exact .inr (.inl h)
        · exact .inl h
        · exact .inr (.inr h)
theorem F_val {kvs : List (Str × Int)} {k : Str} (h : k ∈ kvs.map (·.1)) : ∃ v, valD (F kvs) (.inr k) = some (.int v) := by
  induction kvs with
  | nil => simp at h
  | cons p ps ih =>
    obtain ⟨a, b⟩ := p
    by_cases z : a = k
    · exact ⟨b, by simp [F, valD, List.find?_cons, z]⟩
    · have h' : k ∈ ps.map (·.1) := by
        rw [List.map_cons] at h
        rcases List.mem_cons.mp h with h | h
        · exact absurd h.symm z
        · exact h
      obtain ⟨v, hv⟩ := ih h'
      refine ⟨v, ?_⟩
      have : ¬ ((Sum.inr a : Key) = Sum.inr k) := fun q => z (Sum.inr.inj q)
      simp only [F, valD, List.map_cons, List.find?_cons, this, decide_false] at hv ⊢
      exact hv
theorem F_keys (kvs : List (Str × Int)) : (F kvs).map (fun p => kD p.1) = (kvs.map (·.1)).map .str := by unfold F; rw [List.map_map, List.map_map]; rfl
theorem keyTs_F : ∀ kvs : List (Str × Int), keyTs (F kvs) = some (kvs.map (·.1))
  | [] => rfl
  | p :: ps => by
    show (keyTs (F ps)).map (p.1 :: ·) = _
    rw [keyTs_F ps]; rfl
theorem pairsD_F : ∀ ps : List (Str × Int), pairsD (ps.map fun p => .tup [.str p.1, .int p.2]) = some (F ps)
  | [] => rfl
  | p :: ps => by simp [pairsD, keyD, pairsD_F ps, F]
theorem hasK_keys {L : List (Key × D)} {ks : List Str} (h : L.map (·.1) = ks.map Sum.inr) (k : Str) : hasK L (.inr k) = decide (k ∈ ks) := by
  unfold hasK
  have e : (L.any fun kv => decide (kv.1 = Sum.inr k)) = (L.map (·.1)).any fun y => decide (y = Sum.inr k) := by rw [List.any_map]; rfl
  rw [e, h, List.any_map, Bool.eq_iff_iff]
  simp
/-! ### loops, more -/
theorem forL_first {g : GM} {mb : SM} {st : Store} {I : DEnv → Prop} : ∀ {ds : List D} (p : Nat → Bool) (f : Nat → D), (∀ (j : Nat) (d : D), ds[j]? = some d → ∀ Γ, I Γ → ∃ Γ1, g d Γ = some Γ1 ∧ (p j = true → mb Γ1 st = .ret (f j) st) ∧ (p j = false → ∃ Γ2, mb Γ1 st = .nx Γ2 st ∧ I Γ2)) →
    ∀ Γ, I Γ → (∃ j, j < ds.length ∧ p j = true ∧ (∀ i < j, p i = false) ∧ forL g mb ds Γ st = .ret (f j) st) ∨ ((∀ j < ds.length, p j = false) ∧ ∃ Γ', forL g mb ds Γ st = .nx Γ' st ∧ I Γ')
  | [], p, f, _, Γ, i => .inr ⟨fun j h => by simp at h, Γ, rfl, i⟩
  | d :: ds, p, f, h, Γ, i => by
    obtain ⟨Γ1, h1, h2, h3⟩ := h 0 d rfl Γ i
    cases hp : p 0 with
    | true =>
      refine .inl ⟨0, by simp, hp, fun i h => by omega, ?_⟩
      unfold forL
      rw [h1]
      show (match mb Γ1 st with | .nx Γ2 st2 => forL g mb ds Γ2 st2 | .ct Γ2 st2 => forL g mb ds Γ2 st2 | .bk Γ2 st2 => .nx Γ2 st2 | r => r) = _
      rw [h2 hp]
    | false =>
      obtain ⟨Γ2, e2, i2⟩ := h3 hp
      have e : forL g mb (d :: ds) Γ st = forL g mb ds Γ2 st := by
        rw [forL, h1]
        show (match mb Γ1 st with | .nx Γ2 st2 => forL g mb ds Γ2 st2 | .ct Γ2 st2 => forL g mb ds Γ2 st2 | .bk Γ2 st2 => .nx Γ2 st2 | r => r) = _
        rw [e2]
      rw [e]
      rcases forL_first (ds := ds) (fun j => p (j + 1)) (fun j => f (j + 1)) (fun j d hd => h (j + 1) d hd) Γ2 i2 with ⟨j, hj, hp1, hm, he⟩ | ⟨hn, hx⟩
      · refine .inl ⟨j + 1, by simp; omega, hp1, fun i hi => ?_, he⟩
        cases i with
        | zero => exact hp
        | succ i => exact hm i (by omega)
      · refine .inr ⟨fun j hj => ?_, hx⟩
        cases j with
        | zero => exact hp
        | succ j => exact hn j (by simp at hj; omega)
/-- every turn gives an item, which is told of the turn's datum -/
theorem lcL_rel {g : GM} {me : EM} {Γ : DEnv} {R : D → D → Prop} : ∀ {ds : List D} (I : Nat → Store → Prop), (∀ (j : Nat) (d : D), ds[j]? = some d → ∀ st, I j st → ∃ Γ1, g d Γ = some Γ1 ∧ ∃ x st2, me Γ1 st = .ok x st2 ∧ R d x ∧ I (j + 1) st2) →
    ∀ st acc, I 0 st → acc.length + ds.length ≤ 16777216 → ∃ xs st', lcL g eYes me ds Γ st acc = .ok (.lst (acc ++ xs)) st' ∧ I ds.length st' ∧ Paired R ds xs
  | [], I, _, st, acc, i, _ => ⟨[], st, by simp [lcL], i, .nil⟩
  | d :: ds, I, h, st, acc, i, hl => by
    obtain ⟨Γ1, h1, x, st2, h2, e, i2⟩ := h 0 d rfl st i
    obtain ⟨xs, st', h3, i3, e3⟩ := lcL_rel (ds := ds) (fun j => I (j + 1)) (fun j d hd => h (j + 1) d hd) st2 (acc ++ [x]) i2 (by simp at hl ⊢; omega)
    have hlt : acc.length < 16777216 := by simp at hl; omega
    refine ⟨x :: xs, st', ?_, i3, .cons e e3⟩
    unfold lcL
    rw [h1]
    show (match me Γ1 st with | .ok x s2 => (if acc.length < 16777216 then lcL g eYes me ds Γ s2 (acc ++ [x]) else .no) | _ => .no) = _
    rw [h2]
    show (if acc.length < 16777216 then lcL g eYes me ds Γ st2 (acc ++ [x]) else .no) = _
    rw [if_pos hlt, h3]; simp
theorem paired_pairs : ∀ {ys : List Str} {xs : List D}, Paired (fun d x => ∃ (y : Str) (v : Int), d = .str y ∧ x = .tup [.str y, .int v]) (ys.map D.str) xs → ∃ kvs : List (Str × Int), xs = kvs.map (fun p => .tup [.str p.1, .int p.2]) ∧ kvs.map (·.1) = ys
  | [], xs, h => by cases h; exact ⟨[], rfl, rfl⟩
  | y :: ys, xs, h => by
    cases h with
    | cons h1 h2 =>
      obtain ⟨y', v, e, rfl⟩ := h1
      cases e
      obtain ⟨kvs, rfl, h3⟩ := paired_pairs h2
      exact ⟨(y, v) :: kvs, rfl, by simp [h3]⟩
theorem dcL_keys {g : GM} {mk me : EM} {Γ : DEnv} {st : Store} {E : D → Prop} : ∀ {ys : List Str}, ys.Nodup → (∀ y ∈ ys, ∃ Γ1, g (.str y) Γ = some Γ1 ∧ mk Γ1 st = .ok (.str y) st ∧ ∃ x, me Γ1 st = .ok x st ∧ E x) →
    ∀ (acc : List (Key × D)) (ks : List Str), acc.map (·.1) = ks.map Sum.inr → (∀ y ∈ ys, y ∉ ks) → (∀ p ∈ acc, E p.2) → ks.length + ys.length ≤ 16777216 → ∃ L, dcL g eYes mk me (ys.map .str) Γ st acc = .ok (.dct L) st ∧ L.map (·.1) = (ks ++ ys).map Sum.inr ∧ ∀ p ∈ L, E p.2
  | [], _, _, acc, ks, ha, _, hE, _ => ⟨acc, rfl, by simpa using ha, hE⟩
  | y :: ys, nd, h, acc, ks, ha, hn, hE, hl => by
    obtain ⟨Γ1, h1, h2, x, h3, hx⟩ := h y List.mem_cons_self
    have hy : y ∉ ks := hn y List.mem_cons_self
    have hput : putD acc (.inr y) x = acc ++ [(.inr y, x)] := by
      unfold putD
      refine if_neg ?_
      have := hasK_keys ha y
      unfold hasK at this
      rw [this]; simpa using hy
    obtain ⟨nd1, nd2⟩ := List.nodup_cons.mp nd
    obtain ⟨L, e, e1, e2⟩ := dcL_keys (ys := ys) nd2 (fun z hz => h z (List.mem_cons_of_mem _ hz)) (acc ++ [(.inr y, x)]) (ks ++ [y]) (by simp [ha]) (fun z hz q => by
      rcases List.mem_append.mp q with q | q
      · exact hn z (List.mem_cons_of_mem _ hz) q
      · simp at q; subst q; exact nd1 hz) (fun p hp => by
      rcases List.mem_append.mp hp with hp | hp
      · exact hE p hp
      · simp at hp; subst hp; exact hx) (by simp at hl ⊢; omega)
    have hal : acc.length = ks.length := by have := congrArg List.length ha; simpa using this
    have hlt : acc.length < 16777216 := by simp at hl; omega
    refine ⟨L, ?_, by simpa using e1, e2⟩
    rw [List.map_cons, dcL, h1]
    show (match mk Γ1 st with | .ok ky s2 => (match keyD ky with | some kk => (match me Γ1 s2 with | .ok x s3 => if acc.length < 16777216 then dcL g eYes mk me (ys.map .str) Γ s3 (putD acc kk x) else .no | _ => .no) | none => .no) | _ => .no) = _
    rw [h2]
    show (match me Γ1 st with | .ok x s3 => if acc.length < 16777216 then dcL g eYes mk me (ys.map .str) Γ s3 (putD acc (.inr y) x) else .no | _ => .no) = _
    rw [h3]
    show (if acc.length < 16777216 then dcL g eYes mk me (ys.map .str) Γ st (putD acc (.inr y) x) else .no) = _
    rw [if_pos hlt, hput, e]
/-! ### the longest of the texts that begin a text -/
theorem oAdd_ls (xs ys : List Str) (st : Store) (h : xs.length + ys.length ≤ 16777216) : oAdd (.lst (xs.map .str)) (.lst (ys.map .str)) st = .ok (.lst ((xs ++ ys).map .str)) st := by
  rw [List.map_append]
  exact oAdd_l (by simpa using h)
def pfx (a : Str) (n : Nat) : Str := cutS a none (some (n : Int))
theorem pfx_list (a : Str) (n : Nat) : (pfx a n).cps.toList = a.cps.toList.take n := cut_take a n
theorem starts_iff {a b : Str} : Txt.startswith a b = true ↔ b = pfx a b.length ∧ b.length ≤ a.length := by
  unfold Txt.startswith
  rw [Bool.and_eq_true, StrLaws.subAt_eq]
  simp only [Nat.zero_add, decide_eq_true_eq, List.drop_zero, beq_iff_eq]
  constructor
  · rintro ⟨h1, h2⟩
    exact ⟨str_ext (by rw [pfx_list]; exact h2.symm), h1⟩
  · rintro ⟨h1, h2⟩
    exact ⟨h2, by have := congrArg (fun x : Str => x.cps.toList) h1; simp only [pfx_list] at this; exact this.symm⟩
theorem pfx_len {a : Str} {n : Nat} (h : n ≤ a.length) : (pfx a n).length = n := by
  rw [len_toList, pfx_list, List.length_take]
  rw [len_toList] at h
  omega
theorem starts_pfx {a : Str} {n : Nat} (h : n ≤ a.length) : Txt.startswith a (pfx a n) = true := by rw [starts_iff, pfx_len h]; exact ⟨rfl, h⟩
def Best (spot : Str) (ks : List Str) : Option Str → Prop
  | none => ∀ k ∈ ks, Txt.startswith spot k = false
  | some p => p ∈ ks ∧ Txt.startswith spot p = true ∧ ∀ k ∈ ks, Txt.startswith spot k = true → k.length ≤ p.length
theorem Best.uniq {spot : Str} {ks : List Str} {r q : Option Str} (h : Best spot ks r) (h' : Best spot ks q) : r = q := by
  cases r with
  | none =>
    cases q with
    | none => rfl
    | some p => have := h p h'.1; rw [h'.2.1] at this; cases this
  | some p =>
    cases q with
    | none => have := h' p h.1; rw [h.2.1] at this; cases this
    | some o =>
      have l1 := h.2.2 o h'.1 h'.2.1
      have l2 := h'.2.2 p h.1 h.2.1
      have e1 := (starts_iff.mp h.2.1).1
      have e2 := (starts_iff.mp h'.2.1).1
      have : p.length = o.length := by omega
      rw [e1, e2, this]
theorem Best.perm {spot : Str} {ks js : List Str} {r : Option Str} (h : Best spot ks r) (e : ∀ k, k ∈ js ↔ k ∈ ks) : Best spot js r := by
  cases r with
  | none => exact fun k hk => h k ((e k).mp hk)
  | some p => exact ⟨(e p).mpr h.1, h.2.1, fun k hk => h.2.2 k ((e k).mp hk)⟩
def oD : Option Str → D
  | none => .non
  | some p => .str p
def stepB (spot : Str) (o : Option Str) (k : Str) : Option Str := if Txt.startswith spot k = true ∧ (∀ p, o = some p → p.length < k.length) then some k else o
theorem best_fold (spot : Str) : ∀ (ks js : List Str) (o : Option Str), Best spot js o → Best spot (js ++ ks) (ks.foldl (stepB spot) o)
  | [], js, o, h => by simpa using h
  | k :: ks, js, o, h => by
    have h1 : Best spot (js ++ [k]) (stepB spot o k) := by
      unfold stepB
      by_cases q : Txt.startswith spot k = true ∧ (∀ p, o = some p → p.length < k.length)
      · rw [if_pos q]
        refine ⟨by simp, q.1, fun j hj hs => ?_⟩
        rcases List.mem_append.mp hj with hj | hj
        · cases o with
          | none => have := h j hj; rw [hs] at this; cases this
          | some p => have := h.2.2 j hj hs; have := q.2 p rfl; omega
        · simp at hj; subst hj; exact Nat.le_refl _
      · rw [if_neg q]
        cases o with
        | none =>
          intro j hj
          rcases List.mem_append.mp hj with hj | hj
          · exact h j hj
          · simp at hj; subst hj
            cases z : Txt.startswith spot j with
            | false => rfl
            | true => exact absurd ⟨z, fun p e => nomatch e⟩ q
        | some p =>
          refine ⟨by simp [h.1], h.2.1, fun j hj hs => ?_⟩
          rcases List.mem_append.mp hj with hj | hj
          · exact h.2.2 j hj hs
          · simp at hj; subst hj
            have : ¬ (p.length < j.length) := fun z => q ⟨hs, fun p' e => by cases e; exact z⟩
            omega
    have := best_fold spot ks (js ++ [k]) (stepB spot o k) h1
    simpa using this
end DL
namespace DL
open PySem L2
def top (i : Nat) : Stmt := PySem.Challenge.pw_keptroutes_k05_longest_prefixes.main.body.getD i (.Pass ⟨0, 0, 0, 0⟩)
structure Txt (K : PySem.W.Frag) (mg : Str → Option Value) : Prop where
  b_all : mg "all" = none
  b_bool : mg "bool" = none
  b_dict : mg "dict" = none
  b_int : mg "int" = none
  b_isinstance : mg "isinstance" = none
  b_len : mg "len" = none
  b_list : mg "list" = none
  b_min : mg "min" = none
  b_range : mg "range" = none
  b_repr : mg "repr" = none
  b_sorted : mg "sorted" = none
  b_str : mg "str" = none
  c_MAX_WIDTH : ∃ u, mg "MAX_WIDTH" = some u ∧ RelV (.int 32) u
  cls_PrefixMap : Cls K (cA K "PrefixMap")
  mk_PrefixMap : mg (Str.ofString "PrefixMap") = some (.ref (cA K "PrefixMap"))
  me_PrefixMap_is_value : Meth K (cA K "PrefixMap") "is_value" (cM K "PrefixMap" "is_value")
  me_PrefixMap_kept_value : Meth K (cA K "PrefixMap") "kept_value" (cM K "PrefixMap" "kept_value")
  me_PrefixMap_longest : Meth K (cA K "PrefixMap") "longest" (cM K "PrefixMap" "longest")
  mi_PrefixMap : Mk K (cA K "PrefixMap") (cM K "PrefixMap" "__init__")
  na_PrefixMap_bits : NoAttr K (cA K "PrefixMap") "bits"
  na_PrefixMap_held : NoAttr K (cA K "PrefixMap") "held"

section
variable {P : Program} {wd : World} {K : PySem.W.Frag} {mg : Str → Option Value} {base : Heap}
/-! _law_pen -/
abbrev s__law_pen : Stmt := top 11
theorem sc__law_pen : FnScope ["script"] ["script"] (defScope s__law_pen) := ⟨rfl, rfl, rfl, by decide +kernel, rfl, by decide +kernel, by decide +kernel⟩
def m__law_pen : SM :=
    (sRetSt (eLst (eCons (eB bListX (eCons (eSl (eVarB 0) (eC .non) (eInt (eC (.int 60)))) eNil)) (eCons (eC (.int 0)) (eCons (eC (.int 0)) eNil)))))
def D__law_pen : DF := run ["script"] ["script"] m__law_pen
theorem fn__law_pen (T : Txt K mg) (h : HF K mg "_law_pen" s__law_pen)  : Fn P wd K mg base 1 "_law_pen" D__law_pen :=
  fn_ok h sc__law_pen (fun _ _ _ _ _ _ us hl => match us, hl with | [_], _ => rfl) fun W =>
    (ps_one' (ps_retSt (pn_lst (pa_cons' (pr_listx T.b_list (pb_cons (PR.b (pr_sl (pb_var 0) po_none' (po_some' pr_int))) pb_nil)) (pa_cons' pr_int (pa_cons' pr_int pa_nil'))))))

/-! _law_next -/
abbrev s__law_next : Stmt := top 12
theorem sc__law_next : FnScope ["pen", "index", "cell", "low", "mid", "top"] ["pen"] (defScope s__law_next) := ⟨rfl, rfl, rfl, by decide +kernel, rfl, by decide +kernel, by decide +kernel⟩
def m__law_next : SM :=
    (sSeq (sAsg 1 (eOp oIxX (eVarB 0) (eC (.int 1))))
    (sSeq (sSub (eVar 0) (eC (.int 1)) (eOp oAdd (eVarB 1) (eC (.int 1))))
    (sSeq (sAsg 2 (eOp oAdd (eOp oMulX (eVarB 1) (eC (.int 1049))) (eC (.int 29))))
    (sSeq (sIf (eOp oNe (eOp oIxX (eVarB 0) (eC (.int 0))) (eLst eNil)) (sAsg 2 (eOp oIxX (eOp oIxX (eVarB 0) (eC (.int 0))) (eOp oMod (eVarB 1) (eB bLen (eCons (eOp oIxX (eVarB 0) (eC (.int 0))) eNil))))) sSkip)
    (sSeq (sIf (eAnd (eOp oLt (eVarB 1) (eB bLen (eCons (eOp oIxX (eVarB 0) (eC (.int 0))) eNil))) (eOp oGe (eVarB 2) (eOp oPow (eC (.int 10)) (eC (.int 18))))) (sRet (eVar 2)) sSkip)
    (sSeq (sAsg 3 (eOp oMod (eOp oAdd (eOp oAdd (eOp oMod (eVarB 2) (eC (.int 2147483587))) (eOp oMulX (eVarB 1) (eC (.int 70061)))) (eC (.int 53))) (eC (.int 2147483587))))
    (sSeq (sAsg 4 (eOp oMod (eOp oAdd (eOp oAdd (eOp oMulX (eVarB 3) (eVarB 3)) (eOp oMulX (eVarB 1) (eC (.int 30011)))) (eC (.int 37))) (eC (.int 2147483563))))
    (sSeq (sAsg 5 (eOp oMod (eOp oAdd (eOp oAdd (eOp oMulX (eVarB 4) (eVarB 4)) (eVarB 3)) (eOp oMulX (eOp oMulX (eVarB 1) (eVarB 1)) (eC (.int 13)))) (eC (.int 2147483549))))
    (sRet (eOp oAdd (eOp oMulX (eOp oAdd (eOp oMulX (eVarB 5) (eC (.int 2147483587))) (eVarB 4)) (eC (.int 2147483563))) (eVarB 3)))))))))))
def D__law_next : DF := run ["pen", "index", "cell", "low", "mid", "top"] ["pen"] m__law_next
theorem fn__law_next (T : Txt K mg) (h : HF K mg "_law_next" s__law_next)  : Fn P wd K mg base 1 "_law_next" D__law_next :=
  fn_ok h sc__law_next (fun _ _ _ _ _ _ us hl => match us, hl with | [_], _ => rfl) fun W =>
    (ps_cons' (ps_asg' 1 sc__law_next.nd (pr_ixx (pb_var 0) (PR.b pr_int)))
    (ps_cons' (ps_sub' (pr_add (pb_var 1) (PR.b pr_int)) (pr_var 0) pr_int)
    (ps_cons' (ps_asg' 2 sc__law_next.nd (pr_add (PR.b (pr_mulx (pb_var 1) (PR.b pr_int))) (PR.b pr_int)))
    (ps_cons' (ps_if' (pt_ne (PR.b (pr_ixx (pb_var 0) (PR.b pr_int))) (PR.b (pr_lst pa_nil'))) (ps_one' (ps_asg' 2 sc__law_next.nd (pr_ixx (PR.b (pr_ixx (pb_var 0) (PR.b pr_int))) (PR.b (pr_mod (pb_var 1) (PR.b (pr_len T.b_len (pb_cons (PR.b (pr_ixx (pb_var 0) (PR.b pr_int))) pb_nil)))))))) ps_nil')
    (ps_cons' (ps_if' (pt_w (pw_and' (pt_lt (pb_var 1) (PR.b (pr_len T.b_len (pb_cons (PR.b (pr_ixx (pb_var 0) (PR.b pr_int))) pb_nil)))) (pw_and1' (pt_ge (pb_var 2) (PR.b (pr_pow (PR.b pr_int) (PR.b pr_int))))))) (ps_one' (ps_ret' (pr_var 2))) ps_nil')
    (ps_cons' (ps_asg' 3 sc__law_next.nd (pr_mod (PR.b (pr_add (PR.b (pr_add (PR.b (pr_mod (pb_var 2) (PR.b pr_int))) (PR.b (pr_mulx (pb_var 1) (PR.b pr_int))))) (PR.b pr_int))) (PR.b pr_int)))
    (ps_cons' (ps_asg' 4 sc__law_next.nd (pr_mod (PR.b (pr_add (PR.b (pr_add (PR.b (pr_mulx (pb_var 3) (pb_var 3))) (PR.b (pr_mulx (pb_var 1) (PR.b pr_int))))) (PR.b pr_int))) (PR.b pr_int)))
    (ps_cons' (ps_asg' 5 sc__law_next.nd (pr_mod (PR.b (pr_add (PR.b (pr_add (PR.b (pr_mulx (pb_var 4) (pb_var 4))) (pb_var 3))) (PR.b (pr_mulx (PR.b (pr_mulx (pb_var 1) (pb_var 1))) (PR.b pr_int))))) (PR.b pr_int)))
    (ps_one' (ps_ret' (pr_add (PR.b (pr_mulx (PR.b (pr_add (PR.b (pr_mulx (pb_var 5) (PR.b pr_int))) (pb_var 4))) (PR.b pr_int))) (pb_var 3))))))))))))

/-! _law_draw -/
abbrev s__law_draw : Stmt := top 13
theorem sc__law_draw : FnScope ["pen", "below", "digit"] ["pen", "below"] (defScope s__law_draw) := ⟨rfl, rfl, rfl, by decide +kernel, rfl, by decide +kernel, by decide +kernel⟩
def m__law_draw : SM :=
    (sSeq (sIf (eOp oLt (eOp oIxX (eVarB 0) (eC (.int 2))) (eVarB 1)) (sSub (eVar 0) (eC (.int 2)) (eCall D__law_next (eCons (eVar 0) eNil))) sSkip)
    (sSeq (sAsg 2 (eOp oMod (eOp oIxX (eVarB 0) (eC (.int 2))) (eVarB 1)))
    (sSeq (sSub (eVar 0) (eC (.int 2)) (eOp oFdiv (eOp oIxX (eVarB 0) (eC (.int 2))) (eVarB 1)))
    (sRet (eVar 2)))))
def D__law_draw : DF := run ["pen", "below", "digit"] ["pen", "below"] m__law_draw
theorem fn__law_draw (T : Txt K mg) (h : HF K mg "_law_draw" s__law_draw) (c__law_next : Fn P wd K mg base 1 "_law_next" D__law_next) : Fn P wd K mg base 2 "_law_draw" D__law_draw :=
  fn_ok h sc__law_draw (fun _ _ _ _ _ _ us hl => match us, hl with | [_, _], _ => rfl) fun W =>
    (ps_cons' (ps_if' (pt_lt (PR.b (pr_ixx (pb_var 0) (PR.b pr_int))) (pb_var 1)) (ps_one' (ps_sub' (pr_call c__law_next (pa_cons' (pr_var 0) pa_nil') (hk := by omega)) (pr_var 0) pr_int)) ps_nil')
    (ps_cons' (ps_asg' 2 sc__law_draw.nd (pr_mod (PR.b (pr_ixx (pb_var 0) (PR.b pr_int))) (pb_var 1)))
    (ps_cons' (ps_sub' (pr_fdiv (PR.b (pr_ixx (pb_var 0) (PR.b pr_int))) (pb_var 1)) (pr_var 0) pr_int)
    (ps_one' (ps_ret' (pr_var 2))))))

/-! _law_bits -/
abbrev s__law_bits : Stmt := top 14
theorem sc__law_bits : FnScope ["pen", "size", "turn"] ["pen", "size"] (defScope s__law_bits) := ⟨rfl, rfl, rfl, by decide +kernel, rfl, by decide +kernel, by decide +kernel⟩
def C__law_bits_1 : EM :=
    (eLc [2] (eRng1 (eCons (eCall D__law_draw (eCons (eVar 0) (eCons (eOp oAdd (eVarB 1) (eC (.int 1))) eNil))) eNil)) (gN 2) eYes (eOp oIxX (eC (.str "01")) (eCall D__law_draw (eCons (eVar 0) (eCons (eC (.int 2)) eNil)))))
def m__law_bits : SM :=
    (sRet (eM1 oJoin (eC (.str "")) C__law_bits_1))
def D__law_bits : DF := run ["pen", "size", "turn"] ["pen", "size"] m__law_bits
theorem fn__law_bits (T : Txt K mg) (h : HF K mg "_law_bits" s__law_bits) (c__law_draw : Fn P wd K mg base 2 "_law_draw" D__law_draw) : Fn P wd K mg base 3 "_law_bits" D__law_bits :=
  fn_ok h sc__law_bits (fun _ _ _ _ _ _ us hl => match us, hl with | [_, _], _ => rfl) fun W =>
    (ps_one' (ps_ret' (pr_join pr_str (PR.b (pr_lc (own := [("turn", 2)]) sc__law_bits.nd (blkOk_by (by decide +kernel)) (pi_rng1 T.b_range (pa_cons' (pr_call c__law_draw (pa_cons' (pr_var 0) (pa_cons' (pr_add (pb_var 1) (PR.b pr_int)) pa_nil')) (hk := by omega)) pa_nil')) (pg_name' 2 sc__law_bits.nd) pj_nil (pr_ixx (PR.b pr_str) (PR.b (pr_call c__law_draw (pa_cons' (pr_var 0) (pa_cons' pr_int pa_nil')) (hk := by omega)))))))))

/-! _law_size -/
abbrev s__law_size : Stmt := top 15
theorem sc__law_size : FnScope ["pen", "size"] ["pen"] (defScope s__law_size) := ⟨rfl, rfl, rfl, by decide +kernel, rfl, by decide +kernel, by decide +kernel⟩
def m__law_size : SM :=
    (sSeq (sAsg 1 (eOp oIxX (eLst (eCons (eC (.int 1)) (eCons (eC (.int 2)) (eCons (eC (.int 3)) (eCons (eC (.int 3)) (eCons (eC (.int 4)) (eCons (eC (.int 32)) eNil))))))) (eCall D__law_draw (eCons (eVar 0) (eCons (eC (.int 6)) eNil)))))
    (sSeq (sIf (eAnd (eOp oEq (eVarB 1) (eC (.int 32))) (eOp oGt (eB bLen (eCons (eVarB 0) eNil)) (eC (.int 3)))) (sRet (eC (.int 5))) sSkip)
    (sSeq (sIf (eOp oEq (eVarB 1) (eC (.int 32))) (sAppR (eVar 0) (eC (.int 1))) sSkip)
    (sRet (eVar 1)))))
def D__law_size : DF := run ["pen", "size"] ["pen"] m__law_size
theorem fn__law_size (T : Txt K mg) (h : HF K mg "_law_size" s__law_size) (c__law_draw : Fn P wd K mg base 2 "_law_draw" D__law_draw) : Fn P wd K mg base 3 "_law_size" D__law_size :=
  fn_ok h sc__law_size (fun _ _ _ _ _ _ us hl => match us, hl with | [_], _ => rfl) fun W =>
    (ps_cons' (ps_asg' 1 sc__law_size.nd (pr_ixx (PR.b (pr_lst (pa_cons' pr_int (pa_cons' pr_int (pa_cons' pr_int (pa_cons' pr_int (pa_cons' pr_int (pa_cons' pr_int pa_nil')))))))) (PR.b (pr_call c__law_draw (pa_cons' (pr_var 0) (pa_cons' pr_int pa_nil')) (hk := by omega)))))
    (ps_cons' (ps_if' (pt_w (pw_and' (pt_eq (pb_var 1) (PR.b pr_int)) (pw_and1' (pt_gt (PR.b (pr_len T.b_len (pb_cons (pb_var 0) pb_nil))) (PR.b pr_int))))) (ps_one' (ps_ret' pr_int)) ps_nil')
    (ps_cons' (ps_if' (pt_eq (pb_var 1) (PR.b pr_int)) (ps_one' (ps_appR (pr_var 0) pr_int {})) ps_nil')
    (ps_one' (ps_ret' (pr_var 1))))))

/-! _law_prefixes -/
abbrev s__law_prefixes : Stmt := top 16
theorem sc__law_prefixes : FnScope ["pen", "size", "most", "found", "turn", "start", "prefix"] ["pen", "size", "most"] (defScope s__law_prefixes) := ⟨rfl, rfl, rfl, by decide +kernel, rfl, by decide +kernel, by decide +kernel⟩
def B__law_prefixes_1 : SM :=
    (sSeq (sAsg 5 (eIf (eAnd (eOp oNe (eVarB 3) (eLst eNil)) (eOp oEq (eCall D__law_draw (eCons (eVar 0) (eCons (eC (.int 2)) eNil))) (eC (.int 0)))) (eOp oIxX (eVarB 3) (eCall D__law_draw (eCons (eVar 0) (eCons (eB bLen (eCons (eVarB 3) eNil)) eNil)))) (eC (.str ""))))
    (sSeq (sAsg 6 (eSl (eOp oAdd (eVarB 5) (eCall D__law_bits (eCons (eVar 0) (eCons (eB bMin2 (eCons (eVarB 1) (eCons (eC (.int 5)) eNil))) eNil)))) (eC .non) (eInt (eVar 1))))
    (sIf (eOp oNotIn (eVarB 6) (eVarB 3)) (sApp 3 (eVar 6)) sSkip)))
def m__law_prefixes : SM :=
    (sSeq (sNew 3 (eLst eNil))
    (sSeq (sFor (eRng1 (eCons (eCall D__law_draw (eCons (eVar 0) (eCons (eOp oAdd (eVarB 2) (eC (.int 1))) eNil))) eNil)) (gN 4)
    B__law_prefixes_1)
    (sFrz 3 (sRet (eVar 3)))))
def D__law_prefixes : DF := run ["pen", "size", "most", "found", "turn", "start", "prefix"] ["pen", "size", "most"] m__law_prefixes
theorem fn__law_prefixes (T : Txt K mg) (h : HF K mg "_law_prefixes" s__law_prefixes) (c__law_draw : Fn P wd K mg base 2 "_law_draw" D__law_draw) (c__law_bits : Fn P wd K mg base 3 "_law_bits" D__law_bits) : Fn P wd K mg base 4 "_law_prefixes" D__law_prefixes :=
  fn_ok h sc__law_prefixes (fun _ _ _ _ _ _ us hl => match us, hl with | [_, _, _], _ => rfl) fun W =>
    (ps_cons' (ps_new' 3 sc__law_prefixes.nd (pn_lst pa_nil'))
    (ps_cons' (ps_for' (pi_rng1 T.b_range (pa_cons' (pr_call c__law_draw (pa_cons' (pr_var 0) (pa_cons' (pr_add (pb_var 2) (PR.b pr_int)) pa_nil')) (hk := by omega)) pa_nil')) (pg_name' 4 sc__law_prefixes.nd)
    (ps_cons' (ps_asg' 5 sc__law_prefixes.nd (pr_if (pt_w (pw_and' (pt_ne (pb_var 3) (PR.b (pr_lst pa_nil'))) (pw_and1' (pt_eq (PR.b (pr_call c__law_draw (pa_cons' (pr_var 0) (pa_cons' pr_int pa_nil')) (hk := by omega))) (PR.b pr_int))))) (pr_ixx (pb_var 3) (PR.b (pr_call c__law_draw (pa_cons' (pr_var 0) (pa_cons' (pr_len T.b_len (pb_cons (pb_var 3) pb_nil)) pa_nil')) (hk := by omega)))) pr_str))
    (ps_cons' (ps_asg' 6 sc__law_prefixes.nd (pr_sl (PR.b (pr_add (pb_var 5) (PR.b (pr_call c__law_bits (pa_cons' (pr_var 0) (pa_cons' (pr_min2 T.b_min (pb_cons (pb_var 1) (pb_cons (PR.b pr_int) pb_nil))) pa_nil')) (hk := by omega))))) po_none' (po_some' (pr_var 1))))
    (ps_one' (ps_if' (pt_notin (pb_var 6) (pb_var 3)) (ps_one' (ps_app' 3 (pr_var 6) {})) ps_nil')))))
    (ps_frz 3 (ps_one' (ps_ret' (pr_var 3))))))

/-! _law_numbers -/
abbrev s__law_numbers : Stmt := top 18
theorem sc__law_numbers : FnScope ["pen", "size", "prefix"] ["pen", "size"] (defScope s__law_numbers) := ⟨rfl, rfl, rfl, by decide +kernel, rfl, by decide +kernel, by decide +kernel⟩
def C__law_numbers_1 : EM :=
    (eLc [2] (eIterX (eCall D__law_prefixes (eCons (eVar 0) (eCons (eVar 1) (eCons (eC (.int 7)) eNil))))) (gN 2) eYes (eTup (eCons (eVar 2) (eCons (eOp oSub (eCall D__law_draw (eCons (eVar 0) (eCons (eC (.int 9)) eNil))) (eC (.int 4))) eNil))))
def m__law_numbers : SM :=
    (sRet (eB bDictX (eCons C__law_numbers_1 eNil)))
def D__law_numbers : DF := run ["pen", "size", "prefix"] ["pen", "size"] m__law_numbers
theorem fn__law_numbers (T : Txt K mg) (h : HF K mg "_law_numbers" s__law_numbers) (c__law_prefixes : Fn P wd K mg base 4 "_law_prefixes" D__law_prefixes) (c__law_draw : Fn P wd K mg base 2 "_law_draw" D__law_draw) : Fn P wd K mg base 5 "_law_numbers" D__law_numbers :=
  fn_ok h sc__law_numbers (fun _ _ _ _ _ _ us hl => match us, hl with | [_, _], _ => rfl) fun W =>
    (ps_one' (ps_ret' (pr_dictx T.b_dict (pb_cons (PR.b (pr_lc (own := [("prefix", 2)]) sc__law_numbers.nd (blkOk_by (by decide +kernel)) (pi_anyx (pr_call c__law_prefixes (pa_cons' (pr_var 0) (pa_cons' (pr_var 1) (pa_cons' pr_int pa_nil'))) (hk := by omega))) (pg_name' 2 sc__law_numbers.nd) pj_nil (pr_tup (pa_cons' (pr_var 2) (pa_cons' (pr_sub (PR.b (pr_call c__law_draw (pa_cons' (pr_var 0) (pa_cons' pr_int pa_nil')) (hk := by omega))) (PR.b pr_int)) pa_nil'))))) pb_nil))))

/-! _law_match -/
abbrev s__law_match : Stmt := top 19
theorem sc__law_match : FnScope ["lines", "spot", "found", "prefix"] ["lines", "spot"] (defScope s__law_match) := ⟨rfl, rfl, rfl, by decide +kernel, rfl, by decide +kernel, by decide +kernel⟩
def B__law_match_1 : SM :=
    (sIf (eAnd (eM1 oStarts (eVar 1) (eVarB 3)) (eOr (eOp oIsN (eVarB 2) (eC .non)) (eOp oGt (eB bLen (eCons (eVarB 3) eNil)) (eB bLen (eCons (eVarB 2) eNil))))) (sAsg 2 (eVar 3)) sSkip)
def m__law_match : SM :=
    (sSeq (sAsg 2 (eC .non))
    (sSeq (sFor (eIterX (eVar 0)) (gN 3)
    B__law_match_1)
    (sRet (eVar 2))))
def D__law_match : DF := run ["lines", "spot", "found", "prefix"] ["lines", "spot"] m__law_match
theorem fn__law_match (T : Txt K mg) (h : HF K mg "_law_match" s__law_match)  : Fn P wd K mg base 1 "_law_match" D__law_match :=
  fn_ok h sc__law_match (fun _ _ _ _ _ _ us hl => match us, hl with | [_, _], _ => rfl) fun W =>
    (ps_cons' (ps_asg' 2 sc__law_match.nd pr_non)
    (ps_cons' (ps_for' (pi_anyx (pr_var 0)) (pg_name' 3 sc__law_match.nd)
    (ps_one' (ps_if' (pt_w (pw_and' (pt_val' (pr_startswith (pr_var 1) (pb_var 3))) (pw_and1' (pt_w (pw_or' (pt_isN (pb_var 2) (PR.b pr_non)) (pw_or1' (pt_gt (PR.b (pr_len T.b_len (pb_cons (pb_var 3) pb_nil))) (PR.b (pr_len T.b_len (pb_cons (pb_var 2) pb_nil)))))))))) (ps_one' (ps_asg' 2 sc__law_match.nd (pr_var 3))) ps_nil')))
    (ps_one' (ps_ret' (pr_var 2)))))

/-! is_integer -/
abbrev s_is_integer : Stmt := top 7
theorem sc_is_integer : FnScope ["thing", "low", "high"] ["thing", "low", "high"] (defScope s_is_integer) := ⟨rfl, rfl, rfl, by decide +kernel, rfl, by decide +kernel, by decide +kernel⟩
def m_is_integer : SM :=
    (sRet (eAnd (eB bIsi (eCons (eVarB 0) (eCons (eC (.ty "int")) eNil))) (eAnd (eNot (eB bIsi (eCons (eVarB 0) (eCons (eC (.ty "bool")) eNil)))) (eChain oLe oLe (eVarB 1) (eVarB 0) (eVarB 2)))))
def D_is_integer : DF := run ["thing", "low", "high"] ["thing", "low", "high"] m_is_integer
theorem fn_is_integer (T : Txt K mg) (h : HF K mg "is_integer" s_is_integer)  : Fn P wd K mg base 1 "is_integer" D_is_integer :=
  fn_ok h sc_is_integer (fun _ _ _ _ _ _ us hl => match us, hl with | [_, _, _], _ => rfl) fun W =>
    (ps_one' (ps_ret' (pr_and (pr_isi T.b_isinstance (pb_cons (pb_var 0) (pb_cons (PR.b (pr_ty T.b_int)) pb_nil))) (pr_and (pr_not (pr_isi T.b_isinstance (pb_cons (pb_var 0) (pb_cons (PR.b (pr_ty T.b_bool)) pb_nil)))) (pr_one (pr_chain X_le od_le X_le od_le (pb_var 1) (pb_var 0) (pb_var 2)))))))

/-! is_prefix -/
abbrev s_is_prefix : Stmt := top 8
theorem sc_is_prefix : FnScope ["thing", "width", "bit"] ["thing", "width"] (defScope s_is_prefix) := ⟨rfl, rfl, rfl, by decide +kernel, rfl, by decide +kernel, by decide +kernel⟩
def C_is_prefix_1 : EM :=
    (eLc [2] (eIterX (eVar 0)) (gN 2) eYes (eOp oIn (eVarB 2) (eTup (eCons (eC (.str "0")) (eCons (eC (.str "1")) eNil)))))
def m_is_prefix : SM :=
    (sRet (eAnd (eB bIsi (eCons (eVarB 0) (eCons (eC (.ty "str")) eNil))) (eAnd (eOp oLe (eB bLen (eCons (eVarB 0) eNil)) (eVarB 1)) (eB bAll (eCons C_is_prefix_1 eNil)))))
def D_is_prefix : DF := run ["thing", "width", "bit"] ["thing", "width"] m_is_prefix
theorem fn_is_prefix (T : Txt K mg) (h : HF K mg "is_prefix" s_is_prefix)  : Fn P wd K mg base 1 "is_prefix" D_is_prefix :=
  fn_ok h sc_is_prefix (fun _ _ _ _ _ _ us hl => match us, hl with | [_, _], _ => rfl) fun W =>
    (ps_one' (ps_ret' (pr_and (pr_isi T.b_isinstance (pb_cons (pb_var 0) (pb_cons (PR.b (pr_ty T.b_str)) pb_nil))) (pr_and (pr_le (PR.b (pr_len T.b_len (pb_cons (pb_var 0) pb_nil))) (pb_var 1)) (pr_one (pr_all T.b_all (pb_cons (PR.b (pr_lc (own := [("bit", 2)]) sc_is_prefix.nd (blkOk_by (by decide +kernel)) (pi_anyx (pr_var 0)) (pg_name' 2 sc_is_prefix.nd) pj_nil (pr_in (pb_var 2) (PR.b (pr_tup (pa_cons' pr_str (pa_cons' pr_str pa_nil'))))))) pb_nil)))))))

/-! PrefixMap_is_value -/
abbrev s_PrefixMap_is_value : Stmt := inClass (top 9) 1
theorem sc_PrefixMap_is_value : FnScope ["self", "thing"] ["self", "thing"] (defScope s_PrefixMap_is_value) := ⟨rfl, rfl, rfl, by decide +kernel, rfl, by decide +kernel, by decide +kernel⟩
def m_PrefixMap_is_value : SM :=
    (sRet (eAnd (eB bIsi (eCons (eVarB 1) (eCons (eC (.ty "int")) eNil))) (eNot (eB bIsi (eCons (eVarB 1) (eCons (eC (.ty "bool")) eNil))))))
def D_PrefixMap_is_value : DF := run ["self", "thing"] ["self", "thing"] m_PrefixMap_is_value
theorem fn_PrefixMap_is_value (T : Txt K mg) {fa : Addr} (h : HM K "is_value" "PrefixMap.is_value" s_PrefixMap_is_value fa)  : FnA P wd K mg base 1 fa D_PrefixMap_is_value :=
  fn_okM h sc_PrefixMap_is_value (fun _ _ _ _ _ _ us hl => match us, hl with | [_, _], _ => rfl) fun W =>
    (ps_one' (ps_ret' (pr_and (pr_isi T.b_isinstance (pb_cons (pb_var 1) (pb_cons (PR.b (pr_ty T.b_int)) pb_nil))) (pr_one (pr_not (pr_isi T.b_isinstance (pb_cons (pb_var 1) (pb_cons (PR.b (pr_ty T.b_bool)) pb_nil))))))))

/-! PrefixMap_kept_value -/
abbrev s_PrefixMap_kept_value : Stmt := inClass (top 9) 2
theorem sc_PrefixMap_kept_value : FnScope ["self", "thing"] ["self", "thing"] (defScope s_PrefixMap_kept_value) := ⟨rfl, rfl, rfl, by decide +kernel, rfl, by decide +kernel, by decide +kernel⟩
def m_PrefixMap_kept_value : SM :=
    (sRet (eVar 1))
def D_PrefixMap_kept_value : DF := run ["self", "thing"] ["self", "thing"] m_PrefixMap_kept_value
theorem fn_PrefixMap_kept_value (T : Txt K mg) {fa : Addr} (h : HM K "kept_value" "PrefixMap.kept_value" s_PrefixMap_kept_value fa)  : FnA P wd K mg base 1 fa D_PrefixMap_kept_value :=
  fn_okM h sc_PrefixMap_kept_value (fun _ _ _ _ _ _ us hl => match us, hl with | [_, _], _ => rfl) fun W =>
    (ps_one' (ps_ret' (pr_var 1)))

/-! PrefixMap___init__ -/
abbrev s_PrefixMap___init__ : Stmt := inClass (top 9) 0
theorem sc_PrefixMap___init__ : FnScope ["self", "width", "rows", "prefix"] ["self", "width", "rows"] (defScope s_PrefixMap___init__) := ⟨rfl, rfl, rfl, by decide +kernel, rfl, by decide +kernel, by decide +kernel⟩
def C_PrefixMap___init___1 : EM :=
    (eLc [3] (eIterX (eVar 2)) (gN 3) eYes (eAnd (eCall D_is_prefix (eCons (eVar 3) (eCons (eVar 1) eNil))) (eMeth [("PrefixMap", D_PrefixMap_is_value)] "is_value" (eVar 0) (eCons (eOp oIxX (eVarB 2) (eVarB 3)) eNil))))
def C_PrefixMap___init___2 : EM :=
    (eDc [3] (eIterX (eB bSorted (eCons (eVarB 2) eNil))) (gN 3) eYes (eVar 3) (eMeth [("PrefixMap", D_PrefixMap_kept_value)] "kept_value" (eVar 0) (eCons (eOp oIxX (eVarB 2) (eVarB 3)) eNil)))
def m_PrefixMap___init__ : SM :=
    (sSeq (sIf (eOr (eNot (eCall D_is_integer (eCons (eVar 1) (eCons (eC (.int 1)) (eCons (eC (.int 32)) eNil))))) (eNot (eB bIsi (eCons (eVarB 2) (eCons (eC (.ty "dict")) eNil))))) sNo sSkip)
    (sSeq (sIf (eNot (eB bAll (eCons C_PrefixMap___init___1 eNil))) sNo sSkip)
    (sSeq (sFldR ["PrefixMap"] "bits" (eVar 0) (eVar 1))
    (sFldR ["PrefixMap"] "held" (eVar 0) C_PrefixMap___init___2))))
def D_PrefixMap___init__ : DF := run ["self", "width", "rows", "prefix"] ["self", "width", "rows"] m_PrefixMap___init__
theorem fn_PrefixMap___init__ (T : Txt K mg) {fa : Addr} (h : HM K "__init__" "PrefixMap.__init__" s_PrefixMap___init__ fa) (c_is_integer : Fn P wd K mg base 1 "is_integer" D_is_integer) (c_is_prefix : Fn P wd K mg base 1 "is_prefix" D_is_prefix) (c_PrefixMap_is_value : FnA P wd K mg base 1 (cM K "PrefixMap" "is_value") D_PrefixMap_is_value) (c_PrefixMap_kept_value : FnA P wd K mg base 1 (cM K "PrefixMap" "kept_value") D_PrefixMap_kept_value) : FnA P wd K mg base 3 fa D_PrefixMap___init__ :=
  fn_okM h sc_PrefixMap___init__ (fun _ _ _ _ _ _ us hl => match us, hl with | [_, _, _], _ => rfl) fun W =>
    (ps_cons' (ps_if' (pt_w (pw_or' (pt_not'' (pt_val' (pr_call c_is_integer (pa_cons' (pr_var 1) (pa_cons' pr_int (pa_cons' (pr_glob T.c_MAX_WIDTH (fun _ => .int)) pa_nil'))) (hk := by omega)))) (pw_or1' (pt_not'' (pt_val' (pr_isi T.b_isinstance (pb_cons (pb_var 2) (pb_cons (PR.b (pr_ty T.b_dict)) pb_nil)))))))) (ps_one' ps_no) ps_nil')
    (ps_cons' (ps_if' (pt_not'' (pt_val' (pr_all T.b_all (pb_cons (PR.b (pr_lc (own := [("prefix", 3)]) sc_PrefixMap___init__.nd (blkOk_by (by decide +kernel)) (pi_anyx (pr_var 2)) (pg_name' 3 sc_PrefixMap___init__.nd) pj_nil (pr_and (pr_call c_is_prefix (pa_cons' (pr_var 3) (pa_cons' (pr_var 1) pa_nil')) (hk := by omega)) (pr_one (pr_meth (j := 1) (all_cons (methOK T.cls_PrefixMap T.me_PrefixMap_is_value c_PrefixMap_is_value) all_nil) (pr_var 0) (pa_cons' (pr_ixx (pb_var 2) (pb_var 3)) pa_nil')))))) pb_nil)))) (ps_one' ps_no) ps_nil')
    (ps_cons' (ps_fldR (fld_cons ⟨T.cls_PrefixMap, T.na_PrefixMap_bits⟩ fld_nil) (pr_var 0) (pr_var 1) (fun _ => rfl))
    (ps_one' (ps_fldR (fld_cons ⟨T.cls_PrefixMap, T.na_PrefixMap_held⟩ fld_nil) (pr_var 0) (pr_dc (own := [("prefix", 3)]) sc_PrefixMap___init__.nd (blkOk_by (by decide +kernel)) (pi_anyx (pr_sorted T.b_sorted (pb_cons (pb_var 2) pb_nil))) (pg_name' 3 sc_PrefixMap___init__.nd) pj_nil (pr_var 3) (pr_meth (j := 1) (all_cons (methOK T.cls_PrefixMap T.me_PrefixMap_kept_value c_PrefixMap_kept_value) all_nil) (pr_var 0) (pa_cons' (pr_ixx (pb_var 2) (pb_var 3)) pa_nil'))) (fun _ => rfl))))))

/-! PrefixMap_longest -/
abbrev s_PrefixMap_longest : Stmt := inClass (top 9) 8
theorem sc_PrefixMap_longest : FnScope ["self", "prefix", "size"] ["self", "prefix"] (defScope s_PrefixMap_longest) := ⟨rfl, rfl, rfl, by decide +kernel, rfl, by decide +kernel, by decide +kernel⟩
def B_PrefixMap_longest_1 : SM :=
    (sIf (eOp oIn (eSl (eVarB 1) (eC .non) (eInt (eVar 2))) (eFld ["PrefixMap"] "held" (eVarB 0))) (sRet (eSl (eVarB 1) (eC .non) (eInt (eVar 2)))) sSkip)
def m_PrefixMap_longest : SM :=
    (sSeq (sIf (eNot (eCall D_is_prefix (eCons (eVar 1) (eCons (eFld ["PrefixMap"] "bits" (eVarB 0)) eNil)))) sNo sSkip)
    (sSeq (sFor (eRngD (eCons (eB bLen (eCons (eVarB 1) eNil)) (eCons (eNeg (eC (.int 1))) (eCons (eNeg (eC (.int 1))) eNil)))) (gN 2)
    B_PrefixMap_longest_1)
    (sRet (eC .non))))
def D_PrefixMap_longest : DF := run ["self", "prefix", "size"] ["self", "prefix"] m_PrefixMap_longest
theorem fn_PrefixMap_longest (T : Txt K mg) {fa : Addr} (h : HM K "longest" "PrefixMap.longest" s_PrefixMap_longest fa) (c_is_prefix : Fn P wd K mg base 1 "is_prefix" D_is_prefix) : FnA P wd K mg base 2 fa D_PrefixMap_longest :=
  fn_okM h sc_PrefixMap_longest (fun _ _ _ _ _ _ us hl => match us, hl with | [_, _], _ => rfl) fun W =>
    (ps_cons' (ps_if' (pt_not'' (pt_val' (pr_call c_is_prefix (pa_cons' (pr_var 1) (pa_cons' (pr_fld (fld_cons ⟨T.cls_PrefixMap, T.na_PrefixMap_bits⟩ fld_nil) (pb_var 0)) pa_nil')) (hk := by omega)))) (ps_one' ps_no) ps_nil')
    (ps_cons' (ps_for' (pi_rngD T.b_range (pa_cons' (pr_len T.b_len (pb_cons (pb_var 1) pb_nil)) (pa_cons' (pr_neg pr_int) (pa_cons' (pr_neg pr_int) pa_nil')))) (pg_name' 2 sc_PrefixMap_longest.nd)
    (ps_one' (ps_if' (pt_in (PR.b (pr_sl (pb_var 1) po_none' (po_some' (pr_var 2)))) (PR.b (pr_fld (fld_cons ⟨T.cls_PrefixMap, T.na_PrefixMap_held⟩ fld_nil) (pb_var 0)))) (ps_one' (ps_ret' (pr_sl (pb_var 1) po_none' (po_some' (pr_var 2))))) ps_nil')))
    (ps_one' (ps_ret' pr_non))))

/-! law -/
abbrev s_law : Stmt := top 20
theorem sc_law : FnScope ["script", "pen", "turn", "size", "lines", "some", "spots", "spot", "k", "prefix", "more"] ["script"] (defScope s_law) := ⟨rfl, rfl, rfl, by decide +kernel, rfl, by decide +kernel, by decide +kernel⟩
def C_law_1 : EM :=
    (eLc [9] (eIterX (eVar 4)) (gN 9) eYes (eSl (eVarB 9) (eC .non) (eInt (eNeg (eC (.int 1))))))
def C_law_2 : EM :=
    (eLc [9] (eIterX (eVar 4)) (gN 9) eYes (eSl (eOp oAdd (eVarB 9) (eC (.str "10"))) (eC .non) (eInt (eVar 3))))
def C_law_3 : EM :=
    (eLc [10] (eRng1 (eCons (eC (.int 6)) eNil)) (gN 10) eYes (eCall D__law_bits (eCons (eVar 1) (eCons (eVar 3) eNil))))
def B_law_1 : SM :=
    (sIf (eOp oNe (eB bRepr (eCons (eMeth [("PrefixMap", D_PrefixMap_longest)] "longest" (eVar 5) (eCons (eVar 7) eNil)) eNil)) (eB bRepr (eCons (eCall D__law_match (eCons (eVar 4) (eCons (eVar 7) eNil))) eNil))) (sRet (eC (.bl false))) sSkip)
def B_law_2 : SM :=
    (sSeq (sAsg 3 (eCall D__law_size (eCons (eVar 1) eNil)))
    (sSeq (sAsg 4 (eCall D__law_numbers (eCons (eVar 1) (eCons (eVar 3) eNil))))
    (sSeq (sAsg 5 (eMake "PrefixMap" D_PrefixMap___init__ (eCons (eVar 3) (eCons (eVar 4) eNil))))
    (sSeq (sAsg 6 (eOp oAdd (eOp oAdd (eB bListX (eCons (eVarB 4) eNil)) C_law_1) C_law_2))
    (sSeq (sAsg 6 (eOp oAdd (eOp oAdd (eVarB 6) C_law_3) (eLst (eCons (eOp oMulX (eC (.str "0")) (eVarB 3)) (eCons (eOp oMulX (eC (.str "1")) (eVarB 3)) (eCons (eC (.str "")) eNil))))))
    (sFor (eIterX (eOp oAdd (eVarB 6) (eRev (eVarB 6)))) (gN 7)
    B_law_1))))))
def C_law_4 : EM :=
    (eLc [8] (eRng1 (eCons (eC (.int 31)) eNil)) (gN 8) eYes (eTup (eCons (eSl (eOp oAdd (eOp oMulX (eC (.str "0")) (eVarB 8)) (eC (.str "1"))) (eC .non) (eInt (eC (.int 32)))) (eCons (eVar 8) eNil))))
def C_law_5 : EM :=
    (eLc [8] (eRng1 (eCons (eC (.int 9)) eNil)) (gN 8) eYes (eTup (eCons (eOp oMulX (eC (.str "1")) (eVarB 8)) (eCons (eVar 8) eNil))))
def B_law_3 : SM :=
    (sIf (eOp oNe (eMeth [("PrefixMap", D_PrefixMap_longest)] "longest" (eVar 5) (eCons (eVar 7) eNil)) (eCall D__law_match (eCons (eVar 4) (eCons (eVar 7) eNil)))) (sRet (eC (.bl false))) sSkip)
def B_law_4 : SM :=
    (sFor (eIterX (eTup (eCons (eOp oAdd (eOp oMulX (eC (.str "0")) (eVarB 8)) (eOp oMulX (eC (.str "1")) (eOp oSub (eC (.int 32)) (eVarB 8)))) (eCons (eOp oMulX (eC (.str "0")) (eVarB 8)) (eCons (eOp oMulX (eC (.str "1")) (eVarB 8)) eNil))))) (gN 7)
    B_law_3)
def m_law : SM :=
    (sSeq (sAsg 1 (eCall D__law_pen (eCons (eVar 0) eNil)))
    (sSeq (sFor (eRng1 (eCons (eC (.int 6)) eNil)) (gN 2)
    B_law_2)
    (sSeq (sAsg 4 (eB bDictX (eCons (eOp oAdd C_law_4 C_law_5) eNil)))
    (sSeq (sAsg 5 (eMake "PrefixMap" D_PrefixMap___init__ (eCons (eC (.int 32)) (eCons (eVar 4) eNil))))
    (sSeq (sFor (eRng1 (eCons (eC (.int 33)) eNil)) (gN 8)
    B_law_4)
    (sRet (eC (.bl true))))))))
def D_law : DF := run ["script", "pen", "turn", "size", "lines", "some", "spots", "spot", "k", "prefix", "more"] ["script"] m_law
theorem bd_law (T : Txt K mg) (c__law_pen : Fn P wd K mg base 1 "_law_pen" D__law_pen) (c__law_size : Fn P wd K mg base 3 "_law_size" D__law_size) (c__law_numbers : Fn P wd K mg base 5 "_law_numbers" D__law_numbers) (c__law_bits : Fn P wd K mg base 3 "_law_bits" D__law_bits) (c__law_match : Fn P wd K mg base 1 "_law_match" D__law_match) (c_PrefixMap___init__ : FnA P wd K mg base 3 (cM K "PrefixMap" "__init__") D_PrefixMap___init__) (c_PrefixMap_longest : FnA P wd K mg base 2 (cM K "PrefixMap" "longest") D_PrefixMap_longest) (W : WX) : PSl P wd K mg base 5 ["script", "pen", "turn", "size", "lines", "some", "spots", "spot", "k", "prefix", "more"] ⟨defScope s_law, fun _ => true⟩ W (defBody s_law) m_law :=
    (ps_cons' (ps_asg' 1 sc_law.nd (pr_call c__law_pen (pa_cons' (pr_var 0) pa_nil') (hk := by omega)))
    (ps_cons' (ps_for' (pi_rng1 T.b_range (pa_cons' pr_int pa_nil')) (pg_name' 2 sc_law.nd)
    (ps_cons' (ps_asg' 3 sc_law.nd (pr_call c__law_size (pa_cons' (pr_var 1) pa_nil') (hk := by omega)))
    (ps_cons' (ps_asg' 4 sc_law.nd (pr_call c__law_numbers (pa_cons' (pr_var 1) (pa_cons' (pr_var 3) pa_nil')) (hk := by omega)))
    (ps_cons' (ps_asg' 5 sc_law.nd (pr_make "PrefixMap" (makeOK (k := 3) T.mk_PrefixMap T.mi_PrefixMap c_PrefixMap___init__) (pa_cons' (pr_var 3) (pa_cons' (pr_var 4) pa_nil'))))
    (ps_cons' (ps_asg' 6 sc_law.nd (pr_add (PR.b (pr_add (PR.b (pr_listx T.b_list (pb_cons (pb_var 4) pb_nil))) (PR.b (pr_lc (own := [("prefix", 9)]) sc_law.nd (blkOk_by (by decide +kernel)) (pi_anyx (pr_var 4)) (pg_name' 9 sc_law.nd) pj_nil (pr_sl (pb_var 9) po_none' (po_some' (pr_neg pr_int))))))) (PR.b (pr_lc (own := [("prefix", 9)]) sc_law.nd (blkOk_by (by decide +kernel)) (pi_anyx (pr_var 4)) (pg_name' 9 sc_law.nd) pj_nil (pr_sl (PR.b (pr_add (pb_var 9) (PR.b pr_str))) po_none' (po_some' (pr_var 3)))))))
    (ps_cons' (ps_asg' 6 sc_law.nd (pr_add (PR.b (pr_add (pb_var 6) (PR.b (pr_lc (own := [("more", 10)]) sc_law.nd (blkOk_by (by decide +kernel)) (pi_rng1 T.b_range (pa_cons' pr_int pa_nil')) (pg_name' 10 sc_law.nd) pj_nil (pr_call c__law_bits (pa_cons' (pr_var 1) (pa_cons' (pr_var 3) pa_nil')) (hk := by omega)))))) (PR.b (pr_lst (pa_cons' (pr_mulx (PR.b pr_str) (pb_var 3)) (pa_cons' (pr_mulx (PR.b pr_str) (pb_var 3)) (pa_cons' pr_str pa_nil')))))))
    (ps_one' (ps_for' (pi_anyx (pr_add (pb_var 6) (PR.b (pr_rev (pb_var 6))))) (pg_name' 7 sc_law.nd)
    (ps_one' (ps_if' (pt_ne (PR.b (pr_repr T.b_repr (pb_cons (PR.b (pr_meth (j := 2) (all_cons (methOK T.cls_PrefixMap T.me_PrefixMap_longest c_PrefixMap_longest) all_nil) (pr_var 5) (pa_cons' (pr_var 7) pa_nil'))) pb_nil))) (PR.b (pr_repr T.b_repr (pb_cons (PR.b (pr_call c__law_match (pa_cons' (pr_var 4) (pa_cons' (pr_var 7) pa_nil')) (hk := by omega))) pb_nil)))) (ps_one' (ps_ret' pr_bl)) ps_nil'))))))))))
    (ps_cons' (ps_asg' 4 sc_law.nd (pr_dictx T.b_dict (pb_cons (PR.b (pr_add (PR.b (pr_lc (own := [("k", 8)]) sc_law.nd (blkOk_by (by decide +kernel)) (pi_rng1 T.b_range (pa_cons' pr_int pa_nil')) (pg_name' 8 sc_law.nd) pj_nil (pr_tup (pa_cons' (pr_sl (PR.b (pr_add (PR.b (pr_mulx (PR.b pr_str) (pb_var 8))) (PR.b pr_str))) po_none' (po_some' pr_int)) (pa_cons' (pr_var 8) pa_nil'))))) (PR.b (pr_lc (own := [("k", 8)]) sc_law.nd (blkOk_by (by decide +kernel)) (pi_rng1 T.b_range (pa_cons' pr_int pa_nil')) (pg_name' 8 sc_law.nd) pj_nil (pr_tup (pa_cons' (pr_mulx (PR.b pr_str) (pb_var 8)) (pa_cons' (pr_var 8) pa_nil'))))))) pb_nil)))
    (ps_cons' (ps_asg' 5 sc_law.nd (pr_make "PrefixMap" (makeOK (k := 3) T.mk_PrefixMap T.mi_PrefixMap c_PrefixMap___init__) (pa_cons' pr_int (pa_cons' (pr_var 4) pa_nil'))))
    (ps_cons' (ps_for' (pi_rng1 T.b_range (pa_cons' pr_int pa_nil')) (pg_name' 8 sc_law.nd)
    (ps_one' (ps_for' (pi_anyx (pr_tup (pa_cons' (pr_add (PR.b (pr_mulx (PR.b pr_str) (pb_var 8))) (PR.b (pr_mulx (PR.b pr_str) (PR.b (pr_sub (PR.b pr_int) (pb_var 8)))))) (pa_cons' (pr_mulx (PR.b pr_str) (pb_var 8)) (pa_cons' (pr_mulx (PR.b pr_str) (pb_var 8)) pa_nil'))))) (pg_name' 7 sc_law.nd)
    (ps_one' (ps_if' (pt_ne (PR.b (pr_meth (j := 2) (all_cons (methOK T.cls_PrefixMap T.me_PrefixMap_longest c_PrefixMap_longest) all_nil) (pr_var 5) (pa_cons' (pr_var 7) pa_nil'))) (PR.b (pr_call c__law_match (pa_cons' (pr_var 4) (pa_cons' (pr_var 7) pa_nil')) (hk := by omega)))) (ps_one' (ps_ret' pr_bl)) ps_nil')))))
    (ps_one' (ps_ret' pr_bl)))))))

end
end DL
namespace DL
open PySem L2
/-- a pen -/
def penD (ns : List Int) (i n : Int) (ext : List D) : D := .lst (.lst (ns.map .int) :: .int i :: .int n :: ext)
theorem pyL_ints : ∀ ns : List Int, D.pyL (ns.map .int) = some (ns.map PyData.int)
  | [] => rfl
  | n :: ns => by simp [D.pyL, D.py, pyL_ints ns]
theorem shaped_ints (ns : List Int) : SeqAt.shaped (.list (ns.map PyData.int)) = true := by
  have h1 : ∀ ns : List Int, PyData.canLayAll0 (ns.map PyData.int) = true := fun ns => by induction ns with | nil => rfl | cons n ns ih => simp [PyData.canLayAll0, PyData.canLay0, ih]
  have h2 : ∀ ns : List Int, PyData.depthAll (ns.map PyData.int) = 0 := fun ns => by induction ns with | nil => rfl | cons n ns ih => simp [PyData.depthAll, PyData.depth, ih]
  simp [SeqAt.shaped, PyData.canLay0, h1, PyData.depth, h2]
theorem dEq_ints_nil (ns : List Int) : dEq (.lst (ns.map .int)) (.lst []) = some ns.isEmpty := by
  have h := shaped_ints ns
  have h0 : SeqAt.shaped (.list []) = true := by decide
  cases ns with
  | nil => simp [dEq, sclEq, pyEq, D.py, D.pyL, h0, PyData.eqv, PyData.eqvAll]
  | cons n ns => 
    rw [List.map_cons] at h
    simp [dEq, sclEq, pyEq, D.py, D.pyL, pyL_ints, h, h0, PyData.eqv, PyData.eqvAll]
theorem atI_int (ns : List Int) (j : Int) (h0 : 0 ≤ j) (h1 : j < ns.length) : ∃ c, L2.atI (ns.map D.int) j = some (.int c) := by
  have h2 : j < ((ns.map D.int).length : Nat) := by simpa using h1
  have h3 : j.toNat < (ns.map D.int).length := by omega
  refine ⟨(ns[j.toNat]'(by simpa using h3)), ?_⟩
  unfold L2.atI ixN
  simp [h0, h1]
theorem mod_lt {a b : Int} (h : 0 < b) : 0 ≤ a % b ∧ a % b < b := ⟨Int.emod_nonneg a (by omega), Int.emod_lt_of_pos a h⟩
theorem next_spec {st : Store} {l : Nat} {ns : List Int} {i n : Int} {ext : List D} (h : st[l]? = some (penD ns i n ext)) (h0 : 0 ≤ i) (h1 : i < 1152921504606846976) :
    ∃ c, D__law_next [.ref l] st = .ok (.int c) (st.set l (penD ns (i + 1) n ext)) := by
  have hs : ∀ d, (st.set l d)[l]? = some d := fun d => List.getElem?_set_self (getElem?_lt h)
  unfold D__law_next run m__law_next
  cases ns with
  | nil =>
    have q : ¬ i < 0 := by omega
    simp (disch := omega) [-getElem?_pos, -List.getElem?_set_self, initE, h, hs, penD, dEq, sclEq, pyEq, D.py, D.pyL, PyData.eqv, PyData.eqvAll, show SeqAt.shaped (.list []) = true from by decide, q]
  | cons m ms =>
    have e := dEq_ints_nil (m :: ms)
    rw [List.map_cons] at e
    obtain ⟨c, hc⟩ := atI_int (m :: ms) (i % ((ms.length : Int) + 1)) (mod_lt (by omega)).1 (by have := (mod_lt (a := i) (b := (ms.length : Int) + 1) (by omega)).2; simpa using this)
    rw [List.map_cons] at hc
    by_cases q1 : i < (ms.length : Int) + 1
    · by_cases q2 : (1000000000000000000 : Int) ≤ c
      · simp (disch := omega) [-getElem?_pos, -List.getElem?_set_self, initE, h, hs, penD, e, hc, q1, q2]
      · simp (disch := omega) [-getElem?_pos, -List.getElem?_set_self, initE, h, hs, penD, e, hc, q1, q2]
    · simp (disch := omega) [-getElem?_pos, -List.getElem?_set_self, initE, h, hs, penD, e, hc, q1]
theorem draw_spec {st : Store} {l : Nat} {ns : List Int} {i n : Int} {ext : List D} (h : st[l]? = some (penD ns i n ext)) (h0 : 0 ≤ i) (h1 : i < 1152921504606846976) {b : Int} (hb : 0 < b ∧ b < 1073741824) :
    ∃ k i' n' : Int, 0 ≤ k ∧ k < b ∧ 0 ≤ i' ∧ i' ≤ i + 1 ∧ D__law_draw [.ref l, .int b] st = .ok (.int k) (st.set l (penD ns i' n' ext)) := by
  have hs : ∀ d, (st.set l d)[l]? = some d := fun d => List.getElem?_set_self (getElem?_lt h)
  unfold D__law_draw run m__law_draw
  by_cases q : n < b
  · obtain ⟨c, hc⟩ := next_spec h h0 h1
    refine ⟨c % b, i + 1, c / b, (mod_lt hb.1).1, (mod_lt hb.1).2, by omega, by omega, ?_⟩
    have h' : st[l]? = some (.lst (.lst (ns.map .int) :: .int i :: .int n :: ext)) := h
    simp only [penD] at hc
    simp (disch := omega) [-getElem?_pos, -List.getElem?_set_self, initE, h', hs, penD, q, hc]
  · refine ⟨n % b, i, n / b, (mod_lt hb.1).1, (mod_lt hb.1).2, h0, by omega, ?_⟩
    simp (disch := omega) [-getElem?_pos, -List.getElem?_set_self, initE, h, hs, penD, q]
/-- the pen stands at 0, its script ns; c bounds what was read, e what was appended -/
def PenX (ns : List Int) (c : Int) (e : Nat) (r st : Store) : Prop := ∃ i n ext, 0 ≤ i ∧ i ≤ c ∧ ext.length ≤ e ∧ st = penD ns i n ext :: r
theorem PenX.mono {ns : List Int} {c c' : Int} {e e' : Nat} {r st : Store} (h : PenX ns c e r st) (hc : c ≤ c') (he : e ≤ e' := by omega) : PenX ns c' e' r st := let ⟨i, n, x, a, b, d, q⟩ := h; ⟨i, n, x, a, Int.le_trans b hc, Nat.le_trans d he, q⟩
theorem drawX {ns : List Int} {c : Int} {e : Nat} {r st : Store} (h : PenX ns c e r st) (hc : c < 1000000000) {b : Int} (hb : 0 < b ∧ b < 1073741824) : ∃ k st', 0 ≤ k ∧ k < b ∧ D__law_draw [.ref 0, .int b] st = .ok (.int k) st' ∧ PenX ns (c + 1) e r st' := by
  obtain ⟨i, n, ext, h0, h1, h2, rfl⟩ := h
  obtain ⟨k, i', n', a, b', c', d, q⟩ := draw_spec (st := penD ns i n ext :: r) (l := 0) (ext := ext) rfl h0 (by omega) hb
  exact ⟨k, _, a, b', q, i', n', ext, c', by omega, h2, rfl⟩
theorem cutL_60 {ns : List Int} (h : ns.length ≤ 63) : cutL (ns.map D.int) none (some 60) = (ns.take 60).map D.int := by
  unfold cutL HT.sIx
  simp [List.map_take, List.take_take]
theorem pen_spec {ns : List Int} {st : Store} (h : ns.length ≤ 63) : D__law_pen [.scr ns] st = .ok (.ref st.length) (st ++ [penD (ns.take 60) 0 0 []]) := by
  unfold D__law_pen run m__law_pen
  simp -implicitDefEqProofs [-getElem?_pos, initE, oSl, cutL_60 h, penD]
theorem atI_01 {k : Int} (h0 : 0 ≤ k) (h1 : k < 2) : ∃ c, (c = 48 ∨ c = 49) ∧ L2.atI ("01" : Str).cps.toList k = some c := by
  have e : ("01" : Str).cps.toList = [48, 49] := by decide +kernel
  rw [e]
  obtain ⟨x, h, m⟩ := atI_of (l := [48, 49]) h0 (by show k < 2; exact h1)
  exact ⟨x, by simpa using m, h⟩
end DL
namespace DL
open PySem L2
/-! ### texts of bits from the script -/
def Bt (x : Str) : Prop := ∀ c ∈ x.cps.toList, c = 48 ∨ c = 49
theorem Bt.cs {x : Str} (h : Bt x) : Cs x := fun c hc => by have := h c hc; omega
theorem Bt.ok {x : Str} (h : Bt x) : PyData.strOk x = true := strOk_of fun c hc => by have := h c hc; omega
theorem Bt.append {x y : Str} (h : Bt x) (h' : Bt y) : Bt (x ++ y) := fun c hc => by
  have e : (x ++ y).cps.toList = x.cps.toList ++ y.cps.toList := TL.tl_append x y
  rw [e, List.mem_append] at hc
  exact hc.elim (h c) (h' c)
theorem Bt.cut {x : Str} (h : Bt x) (lo hi : Option Int) : Bt (cutS x lo hi) := fun c hc => by
  unfold cutS at hc
  simp only at hc
  exact h c (List.mem_of_mem_drop (List.mem_of_mem_take hc))
theorem Bt.rep {x : Str} (h : Bt x) (n : Int) : Bt (repS x n) := fun c hc => by
  rw [repS_toList] at hc
  obtain ⟨l, hl, hc⟩ := List.mem_flatten.mp hc
  have := List.eq_of_mem_replicate hl
  subst this
  exact h c hc
instance (x : Str) : Decidable (Bt x) := inferInstanceAs (Decidable (∀ c ∈ x.cps.toList, c = 48 ∨ c = 49))
theorem join_bits {ys : List Str} (hy : ∀ y ∈ ys, ∃ c, (c = 48 ∨ c = 49) ∧ y = sgn c) : (Txt.join "" ys).length = ys.length ∧ Bt (Txt.join "" ys) ∧ (ys.map (·.length)).sum = ys.length := by
  have len1 : ∀ y ∈ ys, y.length = 1 := fun y h => by obtain ⟨c, _, rfl⟩ := hy y h; rfl
  have suml : ∀ zs : List Str, (∀ y ∈ zs, y.length = 1) → (zs.map (·.length)).sum = zs.length := fun zs => by
    induction zs with
    | nil => intro _; rfl
    | cons y zs ih => intro h; rw [List.map_cons, List.sum_cons, h y List.mem_cons_self, ih fun q hq => h q (List.mem_cons_of_mem _ hq), List.length_cons]; omega
  refine ⟨?_, ?_, suml ys len1⟩
  · rw [len_toList, join0, List.length_flatten, List.map_map]
    rw [show List.map (List.length ∘ fun y : Str => y.cps.toList) ys = ys.map (·.length) from List.map_congr_left fun y _ => (len_toList y).symm, suml ys len1]
  · intro c hc
    rw [join0] at hc
    obtain ⟨l, hl', hc⟩ := List.mem_flatten.mp hc
    obtain ⟨y, hy', rfl⟩ := List.mem_map.mp hl'
    obtain ⟨c', h, rfl⟩ := hy y hy'
    have : c = c' := by simpa [sgn] using hc
    omega
theorem bitsX {ns : List Int} {c : Int} {e : Nat} {r st : Store} (hp : PenX ns c e r st) {z : Nat} (hz : z ≤ 100) (hc : c < 100000000) :
    ∃ x st', D__law_bits [.ref 0, .int z] st = .ok (.str x) st' ∧ x.length ≤ z ∧ Bt x ∧ PenX ns (c + 101) e r st' := by
  obtain ⟨t, st0, t0, t1, e0, hp0⟩ := drawX hp (by omega) (b := (z : Int) + 1) (by omega)
  obtain ⟨xs, st1, h1, hp1, hE, hl⟩ := lcL_ok (g := gN 2) (me := eOp oIxX (eC (.str "01")) (eCall D__law_draw (eCons (eVar 0) (eCons (eC (.int 2)) eNil)))) (Γ := wipeE [Sl.sh (.ref 0), .sh (.int z), .no] [2])
    (E := fun d => ∃ c, (c = 48 ∨ c = 49) ∧ d = .str (sgn c)) (ds := rng 0 1 t.toNat) (fun j s => PenX ns (c + 1 + j) e r s) (fun j d hd s hs => by
      have hj := (rng_at hd).1
      obtain ⟨k, s', k0, k1, ek, hs'⟩ := drawX hs (by omega) (b := 2) (by omega)
      obtain ⟨ch, hch, ea⟩ := atI_01 k0 k1
      refine ⟨_, rfl, .str (sgn ch), s', ?_, ⟨ch, hch, rfl⟩, hs'.mono (by omega)⟩
      simp -implicitDefEqProofs (disch := decide +kernel) [-getElem?_pos, wipeE, ek, ea]) st0 [] (hp0.mono (by omega)) (by rw [rng_length]; simp; omega)
  rw [rng_length] at hl hp1
  obtain ⟨ys, y1, y2⟩ := strs_of (fun x hx => let ⟨c, _, e⟩ := hE x hx; ⟨_, e⟩)
  have hy : ∀ y ∈ ys, ∃ c, (c = 48 ∨ c = 49) ∧ y = sgn c := fun y hy => by
    obtain ⟨c, h, e⟩ := hE (.str y) (by rw [y2]; exact List.mem_map_of_mem hy)
    exact ⟨c, h, by cases e; rfl⟩
  have hyl : ys.length = t.toNat := by rw [← hl, y2]; simp
  obtain ⟨j1, j2, j3⟩ := join_bits hy
  have hC : C__law_bits_1 [Sl.sh (.ref 0), .sh (.int z), .no] st = .ok (.lst xs) st1 := by
    unfold C__law_bits_1
    rw [eLc_of (eRng1_i (n := t) (s := st0) (by simp -implicitDefEqProofs [-getElem?_pos, e0]) (by omega))]
    simpa using h1
  refine ⟨Txt.join "" ys, st1, ?_, by omega, j2, hp1.mono (by omega)⟩
  have l0 : ("" : Str).length = 0 := by decide +kernel
  have hsz : (ys.map (·.length)).sum + ys.length * ("" : Str).length ≤ 16777216 := by rw [j3, l0]; omega
  have ej : oJoin (.str "") (.lst xs) st1 = .ok (.str (Txt.join "" ys)) st1 := by
    simp only [oJoin, y1]
    exact if_pos hsz
  unfold D__law_bits run m__law_bits
  simp -implicitDefEqProofs [-getElem?_pos, initE, hC, ej]
/-! ### a size -/
def sizesD : List D := [.int 1, .int 2, .int 3, .int 3, .int 4, .int 32]
theorem sizeX {ns : List Int} {c : Int} {e : Nat} {r st : Store} (hp : PenX ns c e r st) (he : e < 1000) (hc : c < 100000000) :
    ∃ (z : Nat) (st' : Store), D__law_size [.ref 0] st = .ok (.int z) st' ∧ 1 ≤ z ∧ z ≤ 32 ∧ PenX ns (c + 1) (e + 1) r st' := by
  obtain ⟨k, st1, k0, k1, e1, i, n, ext, i0, i1, hx, rfl⟩ := drawX hp (by omega) (b := 6) (by omega)
  obtain ⟨zd, hz1, hz2⟩ := atI_of (l := sizesD) k0 (by show k < 6; exact k1)
  have e' : sizesD = [.int 1, .int 2, .int 3, .int 3, .int 4, .int 32] := rfl
  rw [e'] at hz1
  have hq : (∃ z : Nat, zd = .int z ∧ 1 ≤ z ∧ z ≤ 4) ∨ zd = .int 32 := by
    simp only [sizesD, List.mem_cons, List.not_mem_nil, or_false] at hz2
    rcases hz2 with rfl | rfl | rfl | rfl | rfl | rfl
    · exact .inl ⟨1, rfl, by decide, by decide⟩
    · exact .inl ⟨2, rfl, by decide, by decide⟩
    · exact .inl ⟨3, rfl, by decide, by decide⟩
    · exact .inl ⟨3, rfl, by decide, by decide⟩
    · exact .inl ⟨4, rfl, by decide, by decide⟩
    · exact .inr rfl
  rcases hq with ⟨z, rfl, z1, z4⟩ | rfl
  · refine ⟨z, _, ?_, z1, by omega, i, n, ext, i0, i1, Nat.le_succ_of_le hx, rfl⟩
    have n32 : ¬ (z : Int) = 32 := by omega
    unfold D__law_size run m__law_size
    simp -implicitDefEqProofs [-getElem?_pos, initE, e1, hz1, n32, penD]
  · by_cases q : ext = []
    · subst q
      refine ⟨32, penD ns i n [.int 1] :: r, ?_, by decide, by decide, i, n, [.int 1], i0, i1, by simp, rfl⟩
      unfold D__law_size run m__law_size
      simp -implicitDefEqProofs [-getElem?_pos, initE, e1, hz1, penD]
    · refine ⟨5, _, ?_, by decide, by decide, i, n, ext, i0, i1, Nat.le_succ_of_le hx, rfl⟩
      have hl : (3 : Int) < (ext.length : Int) + 1 + 1 + 1 := by
        have := List.length_pos_iff.mpr q
        omega
      unfold D__law_size run m__law_size
      simp -implicitDefEqProofs [-getElem?_pos, initE, e1, hz1, penD, hl]
end DL
namespace DL
open PySem L2
/-! ### different prefixes -/
theorem prefixesX {ns : List Int} {c : Int} {e : Nat} {r st : Store} (hp : PenX ns c e r st) {z m : Nat} (hz : 1 ≤ z ∧ z ≤ 32) (hm : m ≤ 60) (hc : c < 10000000) :
    ∃ (ys : List Str) (st' : Store), D__law_prefixes [.ref 0, .int z, .int m] st = .ok (.lst (ys.map .str)) st' ∧ ys.Nodup ∧ ys.length ≤ m ∧ (∀ y ∈ ys, Bt y ∧ y.length ≤ z) ∧ PenX ns (c + 10000) e r st' := by
  obtain ⟨t, st0, t0, t1, e0, hp0⟩ := drawX hp (by omega) (b := (m : Int) + 1) (by omega)
  obtain ⟨Γ', st', f1, ⟨ys, a4, a5, a6, rfl, nd, ln, gd, hp1⟩⟩ := forL_ok (g := gN 4) (mb := B__law_prefixes_1) (ds := rng 0 1 t.toNat)
    (fun j Γ s => ∃ (ys : List Str) (a4 a5 a6 : Sl), Γ = [.sh (.ref 0), .sh (.int z), .sh (.int m), .ow (.lst (ys.map .str)), a4, a5, a6] ∧ ys.Nodup ∧ ys.length ≤ j ∧ (∀ y ∈ ys, Bt y ∧ y.length ≤ z) ∧ PenX ns (c + 1 + 110 * j) e r s)
    (fun j d hd Γ s hi => by
      obtain ⟨hj, rfl⟩ := rng_at hd
      obtain ⟨ys, a4, a5, a6, rfl, nd, ln, gd, hs⟩ := hi
      -- start
      have hstart : ∃ (y0 : Str) (s1 : Store), (eIf (eAnd (eOp oNe (eVarB 3) (eLst eNil)) (eOp oEq (eCall D__law_draw (eCons (eVar 0) (eCons (eC (.int 2)) eNil))) (eC (.int 0)))) (eOp oIxX (eVarB 3) (eCall D__law_draw (eCons (eVar 0) (eCons (eB bLen (eCons (eVarB 3) eNil)) eNil)))) (eC (.str "")))
          [.sh (.ref 0), .sh (.int z), .sh (.int m), .ow (.lst (ys.map .str)), .sh (.int (0 + (j : Int) * 1)), a5, a6] s = .ok (.str y0) s1 ∧ Bt y0 ∧ y0.length ≤ z ∧ PenX ns (c + 1 + 110 * j + 2) e r s1 := by
        have e1 := dEq_strs_nil ys fun y hy => (gd y hy).1.ok
        have eb : Bt ("" : Str) := by decide +kernel
        have el : ("" : Str).length = 0 := by decide +kernel
        cases ys with
        | nil =>
          refine ⟨"", s, ?_, eb, by omega, hs.mono (by omega)⟩
          rw [List.map_nil] at e1
          simp -implicitDefEqProofs [-getElem?_pos, e1]
        | cons y ys =>
          obtain ⟨k, s1, k0, k1, ek, hs1⟩ := drawX hs (by omega) (b := 2) (by omega)
          rw [List.map_cons] at e1
          by_cases hk : k = 0
          · obtain ⟨k2, s2, k20, k21, ek2, hs2⟩ := drawX hs1 (by omega) (b := (((y :: ys).map D.str).length : Nat)) (by simp at ln ⊢; omega)
            obtain ⟨x, hx, hxm⟩ := atI_of (l := (y :: ys).map D.str) k20 k21
            obtain ⟨y0, hy0, rfl⟩ := List.mem_map.mp hxm
            refine ⟨y0, s2, ?_, (gd y0 hy0).1, (gd y0 hy0).2, hs2.mono (by omega)⟩
            rw [List.map_cons] at hx ek2
            rw [List.length_cons, List.length_map] at ek2
            simp -implicitDefEqProofs [-getElem?_pos, e1, ek, hk]
            simp -implicitDefEqProofs [-getElem?_pos] at ek2
            simp -implicitDefEqProofs [-getElem?_pos, ek2, hx]
          · refine ⟨"", s1, ?_, eb, by omega, hs1.mono (by omega)⟩
            simp -implicitDefEqProofs [-getElem?_pos, e1, ek, hk]
      obtain ⟨y0, s1, es, b0, l0, hs1⟩ := hstart
      have hmin : (if (5 : Int) < (z : Int) then (5 : Int) else (z : Int)) = ((min 5 z : Nat) : Int) := by
        by_cases q : (5 : Int) < (z : Int)
        · rw [if_pos q]; omega
        · rw [if_neg q]; omega
      obtain ⟨x1, s2, eb, bl, bb, hs2⟩ := bitsX hs1 (z := min 5 z) (by omega) (by omega)
      have hlen : y0.length + x1.length ≤ 16777216 := by omega
      have hlen2 : (y0 ++ x1).length ≤ 16777216 := by rw [strLen_append]; omega
      have bn : Bt (cutS (y0 ++ x1) none (some (z : Int))) := (b0.append bb).cut _ _
      have ln2 := cut_hi (y0 ++ x1) z
      have hin := inD_strs (cutS (y0 ++ x1) none (some (z : Int))) ys
      unfold B__law_prefixes_1
      refine ⟨_, rfl, ?_⟩
      show ∃ Γ2 st2, sSeq _ _ [.sh (.ref 0), .sh (.int z), .sh (.int m), .ow (.lst (ys.map .str)), .sh (.int (0 + (j : Int) * 1)), a5, a6] s = _ ∧ _
      rw [sSeq_ap, sAsg_ap, es]
      simp -implicitDefEqProofs only [ok_bs, nx_bind, List.set_cons_succ, List.set_cons_zero]
      by_cases hq : cutS (y0 ++ x1) none (some (z : Int)) ∈ ys
      · refine ⟨[.sh (.ref 0), .sh (.int z), .sh (.int m), .ow (.lst (ys.map .str)), .sh (.int (0 + (j : Int) * 1)), .sh (.str y0), .sh (.str (cutS (y0 ++ x1) none (some (z : Int))))], s2, ?_, ys, _, _, _, rfl, nd, by omega, gd, hs2.mono (by omega)⟩
        simp -implicitDefEqProofs (disch := assumption) [-getElem?_pos, hmin, eb, hin, hq]
      · refine ⟨[.sh (.ref 0), .sh (.int z), .sh (.int m), .ow (.lst ((ys ++ [cutS (y0 ++ x1) none (some (z : Int))]).map .str)), .sh (.int (0 + (j : Int) * 1)), .sh (.str y0), .sh (.str (cutS (y0 ++ x1) none (some (z : Int))))], s2, ?_, _, _, _, _, rfl, ?_, by simp; omega, ?_, hs2.mono (by omega)⟩
        · have hl3 : ys.length < 16777216 := by omega
          simp -implicitDefEqProofs (disch := assumption) [-getElem?_pos, hmin, eb, hin, hq, hl3]
        · exact List.nodup_append.mpr ⟨nd, by simp, fun a ha b hb => by simp at hb; subst hb; exact fun z => hq (z ▸ ha)⟩
        · intro y hy
          rcases List.mem_append.mp hy with hy | hy
          · exact gd y hy
          · simp at hy; subst hy; exact ⟨bn, ln2⟩)
    [.sh (.ref 0), .sh (.int z), .sh (.int m), .ow (.lst []), .no, .no, .no] st0 ⟨[], _, _, _, rfl, List.nodup_nil, Nat.le_refl _, by simp, hp0.mono (by omega)⟩
  rw [rng_length] at ln hp1
  refine ⟨ys, st', ?_, nd, by omega, gd, hp1.mono (by omega)⟩
  have hf := sFor_of (mi := eRng1 (eCons (eCall D__law_draw (eCons (eVar 0) (eCons (eOp oAdd (eVarB 2) (eC (.int 1))) eNil))) eNil)) (g := gN 4) (b := B__law_prefixes_1) (Γ := [.sh (.ref 0), .sh (.int z), .sh (.int m), .ow (.lst []), .no, .no, .no]) (st := st) (s := st0) (ds := rng 0 1 t.toNat) (eRng1_i (by simp -implicitDefEqProofs [-getElem?_pos, e0]) (by omega))
  unfold D__law_prefixes run m__law_prefixes
  simp -implicitDefEqProofs [-getElem?_pos, -sFor_ap, initE, hf, f1, frz]
end DL
namespace DL
open PySem L2
theorem numbersX {ns : List Int} {c : Int} {e : Nat} {r st : Store} (hp : PenX ns c e r st) {z : Nat} (hz : 1 ≤ z ∧ z ≤ 32) (hc : c < 1000000) :
    ∃ (kvs : List (Str × Int)) (st' : Store), D__law_numbers [.ref 0, .int z] st = .ok (.dct (F kvs)) st' ∧ (kvs.map (·.1)).Nodup ∧ kvs.length ≤ 7 ∧ (∀ y ∈ kvs.map (·.1), Bt y ∧ y.length ≤ z) ∧ PenX ns (c + 20000) e r st' := by
  obtain ⟨ys, st1, e1, nd, ln, gd, hp1⟩ := prefixesX hp hz (m := 7) (by decide) (by omega)
  obtain ⟨xs, st2, h2, hp2, hR⟩ := lcL_rel (g := gN 2) (me := eTup (eCons (eVar 2) (eCons (eOp oSub (eCall D__law_draw (eCons (eVar 0) (eCons (eC (.int 9)) eNil))) (eC (.int 4))) eNil))) (Γ := wipeE [Sl.sh (.ref 0), .sh (.int z), .no] [2])
    (R := fun d x => ∃ (y : Str) (v : Int), d = .str y ∧ x = .tup [.str y, .int v]) (ds := ys.map .str) (fun j s => PenX ns (c + 10000 + j) e r s) (fun j d hd s hs => by
      obtain ⟨y, _, rfl⟩ := List.mem_map.mp (List.mem_of_getElem? hd)
      have hj : j < ys.length := by have := getElem?_lt hd; simpa using this
      obtain ⟨k, s', k0, k1, ek, hs'⟩ := drawX hs (by omega) (b := 9) (by omega)
      refine ⟨_, rfl, .tup [.str y, .int (k - 4)], s', ?_, ⟨y, _, rfl, rfl⟩, hs'.mono (by omega)⟩
      simp -implicitDefEqProofs [-getElem?_pos, wipeE, ek]) st1 [] (hp1.mono (by omega)) (by simp; omega)
  obtain ⟨ps, rfl, hk⟩ := paired_pairs hR
  obtain ⟨kvs, m1, m2, m3, m4⟩ := F_merge ps [] (by simp)
  have hC : C__law_numbers_1 [Sl.sh (.ref 0), .sh (.int z), .no] st = .ok (.lst (ps.map fun p => .tup [.str p.1, .int p.2])) st2 := by
    unfold C__law_numbers_1
    rw [eLc_of (ds := ys.map .str) (s := st1) (by simp -implicitDefEqProofs [-getElem?_pos]; rw [show ((7 : Int)) = ((7 : Nat) : Int) from rfl, e1]; simp)]
    simpa using h2
  have hlen : ps.length = ys.length := by rw [← hk]; simp
  refine ⟨kvs, st2, ?_, m2, ?_, ?_, hp2.mono (by simp; omega)⟩
  · have m1' : mergeD [] (F ps) = F kvs := m1
    unfold D__law_numbers run m__law_numbers
    simp -implicitDefEqProofs [-getElem?_pos, initE, hC, pairsD_F, m1']
  · simp at m4; omega
  · intro y hy
    have := (m3 y).mp hy
    rw [hk] at this
    rcases this with h | h
    · exact gd y h
    · simp at h
theorem matchX {spot : Str} {kvs : List (Str × Int)} (hs : spot.length ≤ 1000) (hk : ∀ y ∈ kvs.map (·.1), y.length ≤ 1000) (st : Store) :
    ∃ r, D__law_match [.dct (F kvs), .str spot] st = .ok (oD r) st ∧ Best spot (kvs.map (·.1)) r := by
  have hb := best_fold spot (kvs.map (·.1)) [] none (fun k h => by simp at h)
  refine ⟨(kvs.map (·.1)).foldl (stepB spot) none, ?_, by simpa using hb⟩
  obtain ⟨Γ', st', f1, ⟨a3, o, rfl, ho, rfl⟩⟩ := forL_ok (g := gN 3) (mb := B__law_match_1) (ds := (kvs.map (·.1)).map .str)
    (fun j Γ s => ∃ (a3 : Sl) (o : Option Str), Γ = [.sh (.dct (F kvs)), .sh (.str spot), .sh (oD o), a3] ∧ (o = ((kvs.map (·.1)).take j).foldl (stepB spot) none ∧ (∀ p, o = some p → p.length ≤ 1000)) ∧ s = st)
    (fun j d hd Γ s hi => by
      obtain ⟨a3, o, rfl, ⟨ho, hl⟩, rfl⟩ := hi
      rw [List.getElem?_map] at hd
      cases q : (kvs.map (·.1))[j]? with
      | none => rw [q] at hd; cases hd
      | some y =>
        rw [q] at hd; cases hd
        have hym := List.mem_of_getElem? q
        have hj := getElem?_lt q
        have ht : ((kvs.map (·.1)).take (j + 1)).foldl (stepB spot) none = stepB spot o y := by
          rw [List.take_add_one, q, List.foldl_append, ← ho]; rfl
        have ly := hk y hym
        refine ⟨_, rfl, [.sh (.dct (F kvs)), .sh (.str spot), .sh (oD (stepB spot o y)), .sh (.str y)], s, ?_, _, stepB spot o y, rfl, ⟨ht.symm, ?_⟩, rfl⟩
        · unfold B__law_match_1 stepB
          cases h1 : Txt.startswith spot y with
          | false => simp -implicitDefEqProofs [-getElem?_pos, h1]
          | true =>
            cases o with
            | none => simp -implicitDefEqProofs [-getElem?_pos, h1, oD, oIsN]
            | some p =>
              have lp := hl p rfl
              have ly' : y.length ≤ 16777216 := by omega
              have lp' : p.length ≤ 16777216 := by omega
              by_cases h2 : p.length < y.length
              · have h2' : (p.length : Int) < (y.length : Int) := by omega
                simp -implicitDefEqProofs (disch := assumption) [-getElem?_pos, h1, oD, oIsN, h2]
              · have h2' : ¬ (p.length : Int) < (y.length : Int) := by omega
                simp -implicitDefEqProofs (disch := assumption) [-getElem?_pos, h1, oD, oIsN, h2]
        · intro p hp
          unfold stepB at hp
          split at hp
          · cases hp; exact ly
          · exact hl p hp)
    [.sh (.dct (F kvs)), .sh (.str spot), .sh .non, .no] st ⟨_, none, rfl, ⟨rfl, fun p e => nomatch e⟩, rfl⟩
  have ho' : o = (kvs.map (·.1)).foldl (stepB spot) none := by
    rw [ho.1, List.take_of_length_le (by simp)]
  rw [← ho']
  have hf := sFor_of (mi := eIterX (eVar 0)) (g := gN 3) (b := B__law_match_1) (Γ := [.sh (.dct (F kvs)), .sh (.str spot), .sh .non, .no]) (st := st') (s := st') (ds := (kvs.map (·.1)).map .str) (by
    simp only [eIterX_ap, eVar_ap, getE_0, ok_bind]
    rw [F_keys])
  unfold D__law_match run m__law_match
  simp -implicitDefEqProofs [-getElem?_pos, -sFor_ap, -List.map_map, initE, hf, f1]
theorem kit_all : kitB "str" "str" = some true ∧ kitB "int" "int" = some true ∧ kitB "int" "bool" = some false ∧ kitB "dict" "dict" = some true := by decide +kernel
def bitD (d : D) : Bool := match d with | .str x => inV (.str x) [.str "0", .str "1"] | _ => false
theorem bitD_of {c : Nat} (h : c = 48 ∨ c = 49) : bitD (.str (sgn c)) = true := by
  rcases h with rfl | rfl <;> decide +kernel
theorem sgns_len (x : Str) : (sgns x).length = x.length := by rw [len_toList]; simp [sgns]
theorem preX {x : Str} (hb : Bt x) {m : Nat} (hl : x.length ≤ m) (hm : m ≤ 1000) (st : Store) : D_is_prefix [.str x, .int m] st = .ok (.bl true) st := by
  obtain ⟨k1, k2, k3, k4⟩ := kit_all
  have hx : x.length ≤ 16777216 := by omega
  have hl' : (x.length : Int) ≤ (m : Int) := by omega
  have hm := lcL_map (g := gN 2) (me := eOp oIn (eVarB 2) (eTup (eCons (eC (.str "0")) (eCons (eC (.str "1")) eNil)))) (Γ := wipeE [Sl.sh (.str x), .sh (.int m), .no] [2]) (st := st) (f := fun d => .bl (bitD d)) (ds := sgns x) (fun d hd => by
    unfold sgns at hd
    obtain ⟨c, _, rfl⟩ := List.mem_map.mp hd
    exact ⟨_, rfl, by simp -implicitDefEqProofs [wipeE, inD, flD, flDs, bitD]⟩) [] (by rw [sgns_len]; simpa using hx)
  have hc : C_is_prefix_1 [.sh (.str x), .sh (.int m), .no] st = .ok (.lst ((sgns x).map fun d => .bl (bitD d))) st := by
    unfold C_is_prefix_1
    rw [eLc_of (ds := sgns x) (s := st) (by simp -implicitDefEqProofs [-getElem?_pos])]
    simpa using hm
  have ha : ((sgns x).map bitD).all id = true := by
    rw [List.all_map, List.all_eq_true]
    intro d hd
    unfold sgns at hd
    obtain ⟨c, hcm, rfl⟩ := List.mem_map.mp hd
    exact bitD_of (hb c hcm)
  unfold D_is_prefix run m_is_prefix
  simp -implicitDefEqProofs (disch := assumption) [-getElem?_pos, -List.all_map, initE, tyN, k1, hl', hc, bls_map, ha]
theorem intX {i lo hi : Int} (h : lo ≤ i ∧ i ≤ hi) (st : Store) : D_is_integer [.int i, .int lo, .int hi] st = .ok (.bl true) st := by
  obtain ⟨k1, k2, k3, k4⟩ := kit_all
  unfold D_is_integer run m_is_integer
  simp -implicitDefEqProofs [-getElem?_pos, initE, tyN, k2, k3, h.1, h.2]
theorem longestX {fs : List (Str × D)} {z : Nat} {L : List (Key × D)} {ks : List Str} {spot : Str} (h1 : fs.lookup ("bits" : Str) = some (.int z)) (h2 : fs.lookup ("held" : Str) = some (.dct L)) (h3 : L.map (·.1) = ks.map Sum.inr) (hb : Bt spot) (hl : spot.length ≤ z) (hz : z ≤ 1000) (st : Store) :
    ∃ r, D_PrefixMap_longest [.ins "PrefixMap" fs, .str spot] st = .ok (oD r) st ∧ Best spot ks r := by
  have hp := preX hb hl hz st
  have hspot : spot.length ≤ 16777216 := by omega
  have hr : ∀ j : Nat, j < spot.length + 1 → (spot.length : Int) + (j : Int) * (-1) = ((spot.length - j : Nat) : Int) := fun j hj => by omega
  have hf := sFor_of (mi := eRngD (eCons (eB bLen (eCons (eVarB 1) eNil)) (eCons (eNeg (eC (.int 1))) (eCons (eNeg (eC (.int 1))) eNil)))) (g := gN 2) (b := B_PrefixMap_longest_1) (Γ := [.sh (.ins "PrefixMap" fs), .sh (.str spot), .no]) (st := st) (s := st) (ds := rng spot.length (-1) ((spot.length : Int) - (-1)).toNat)
    (eRngD_i (by simp -implicitDefEqProofs (disch := assumption) [-getElem?_pos]) (by omega) (by omega))
  have hn : ((spot.length : Int) - (-1)).toNat = spot.length + 1 := by omega
  rw [hn] at hf
  have first := forL_first (g := gN 2) (mb := B_PrefixMap_longest_1) (st := st) (I := fun Γ => ∃ a, Γ = [.sh (.ins "PrefixMap" fs), .sh (.str spot), a]) (ds := rng spot.length (-1) (spot.length + 1)) (fun j => decide (pfx spot (spot.length - j) ∈ ks)) (fun j => .str (pfx spot (spot.length - j)))
    (fun j d hd Γ hi => by
      obtain ⟨hj, rfl⟩ := rng_at hd
      obtain ⟨a, rfl⟩ := hi
      rw [hr j hj]
      have hk := hasK_keys h3 (pfx spot (spot.length - j))
      refine ⟨_, rfl, fun hp => ?_, fun hp => ⟨[.sh (.ins "PrefixMap" fs), .sh (.str spot), .sh (.int ((spot.length - j : Nat) : Int))], ?_, _, rfl⟩⟩
      · rw [hp] at hk
        unfold B_PrefixMap_longest_1
        simp -implicitDefEqProofs (disch := assumption) [-getElem?_pos, h2, inD, keyD]
        rw [show cutS spot none (some ((spot.length - j : Nat) : Int)) = pfx spot (spot.length - j) from rfl, hk]
      · rw [hp] at hk
        unfold B_PrefixMap_longest_1
        simp -implicitDefEqProofs (disch := assumption) [-getElem?_pos, h2, inD, keyD]
        rw [show cutS spot none (some ((spot.length - j : Nat) : Int)) = pfx spot (spot.length - j) from rfl, hk])
    [.sh (.ins "PrefixMap" fs), .sh (.str spot), .no] ⟨_, rfl⟩
  rw [rng_length] at first
  rcases first with ⟨j, hj, hp1, hm, he⟩ | ⟨hn, Γ', he, _⟩
  · refine ⟨some (pfx spot (spot.length - j)), ?_, by simpa using hp1, starts_pfx (by omega), fun k hk hs => ?_⟩
    · unfold D_PrefixMap_longest run m_PrefixMap_longest
      simp -implicitDefEqProofs [-getElem?_pos, -sFor_ap, initE, h1, hp, hf, he, oD]
    · rw [pfx_len (by omega)]
      obtain ⟨e1, e2⟩ := starts_iff.mp hs
      by_cases q : k.length ≤ spot.length - j
      · exact q
      · have := hm (spot.length - k.length) (by omega)
        have e3 : spot.length - (spot.length - k.length) = k.length := by omega
        rw [e3, ← e1] at this
        simp [hk] at this
  · refine ⟨none, ?_, fun k hk => ?_⟩
    · unfold D_PrefixMap_longest run m_PrefixMap_longest
      simp -implicitDefEqProofs [-getElem?_pos, -sFor_ap, initE, h1, hp, hf, he, oD]
    · cases hs : Txt.startswith spot k with
      | false => rfl
      | true =>
        obtain ⟨e1, e2⟩ := starts_iff.mp hs
        have := hn (spot.length - k.length) (by omega)
        have e3 : spot.length - (spot.length - k.length) = k.length := by omega
        rw [e3, ← e1] at this
        simp [hk] at this
theorem ne_fld : (("held" : Str) == ("bits" : Str)) = false ∧ ¬ (("bits" : Str) = ("held" : Str)) := by decide +kernel
/-- a new map -/
theorem initX {l : Nat} {z : Nat} {kvs : List (Str × Int)} {st : Store} (hst : st[l]? = some (.ins "PrefixMap" [])) (hz : 1 ≤ z ∧ z ≤ 32) (nd : (kvs.map (·.1)).Nodup) (hl : kvs.length < 64) (hk : ∀ y ∈ kvs.map (·.1), Bt y ∧ y.length ≤ z) :
    ∃ L, D_PrefixMap___init__ [.ref l, .int z, .dct (F kvs)] st = .ok .non (st.set l (.ins "PrefixMap" [("bits", .int z), ("held", .dct L)])) ∧ L.map (·.1) = (srtS (kvs.map (·.1))).map Sum.inr := by
  obtain ⟨k1, k2, k3, k4⟩ := kit_all
  have hi := intX (i := z) (lo := 1) (hi := 32) (by omega)
  have hlt := getElem?_lt hst
  have hl2 : kvs.length < 16777216 := by omega
  -- all
  have h1 := lcL_map (g := gN 3) (me := eAnd (eCall D_is_prefix (eCons (eVar 3) (eCons (eVar 1) eNil))) (eMeth [("PrefixMap", D_PrefixMap_is_value)] "is_value" (eVar 0) (eCons (eOp oIxX (eVarB 2) (eVarB 3)) eNil)))
    (Γ := wipeE [Sl.sh (.ref l), .sh (.int z), .sh (.dct (F kvs)), .no] [3]) (st := st) (f := fun _ => .bl true) (ds := (kvs.map (·.1)).map .str) (fun d hd => by
      obtain ⟨y, hy, rfl⟩ := List.mem_map.mp hd
      obtain ⟨v, hv⟩ := F_val hy
      have hp := preX (hk y hy).1 (hk y hy).2 (by omega) st
      have hm : D_PrefixMap_is_value [.ref l, .int v] st = .ok (.bl true) st := by
        unfold D_PrefixMap_is_value run m_PrefixMap_is_value
        simp -implicitDefEqProofs [-getElem?_pos, initE, tyN, k2, k3]
      exact ⟨_, rfl, by simp -implicitDefEqProofs [-getElem?_pos, wipeE, hp, hst, hv, hm, keyD, List.lookup]⟩) [] (by simp; omega)
  have hC1 : C_PrefixMap___init___1 [Sl.sh (.ref l), .sh (.int z), .sh (.dct (F kvs)), .no] st = .ok (.lst (((kvs.map (·.1)).map D.str).map fun _ => .bl true)) st := by
    unfold C_PrefixMap___init___1
    rw [eLc_of (ds := (kvs.map (·.1)).map .str) (s := st) (by simp only [eIterX_ap, eVar_ap, getE_0, getE_s, ok_bind]; rw [F_keys])]
    simpa using h1
  have hall : (((kvs.map (·.1)).map D.str).map fun _ => true).all id = true := by simp
  have hb := bls_map (fun _ => true) ((kvs.map (·.1)).map D.str)
  -- held
  have nd2 : (srtS (kvs.map (·.1))).Nodup := (srtS_perm _).nodup_iff.mpr nd
  have len2 : (srtS (kvs.map (·.1))).length = kvs.length := by rw [(srtS_perm _).length_eq]; simp
  have hset : ((st.set l (.ins "PrefixMap" [("bits", .int z)]))[l]?) = some (.ins "PrefixMap" [("bits", .int z)]) := List.getElem?_set_self hlt
  obtain ⟨L, e2, e3, _⟩ := dcL_keys (g := gN 3) (mk := eVar 3) (me := eMeth [("PrefixMap", D_PrefixMap_kept_value)] "kept_value" (eVar 0) (eCons (eOp oIxX (eVarB 2) (eVarB 3)) eNil))
    (Γ := wipeE [Sl.sh (.ref l), .sh (.int z), .sh (.dct (F kvs)), .no] [3]) (st := st.set l (.ins "PrefixMap" [("bits", .int z)])) (E := fun _ => True) nd2 (fun y hy => by
      have hy' : y ∈ kvs.map (·.1) := (srtS_perm _).mem_iff.mp hy
      obtain ⟨v, hv⟩ := F_val hy'
      have hm : ∀ s, D_PrefixMap_kept_value [.ref l, .int v] s = .ok (.int v) s := fun s => by
        unfold D_PrefixMap_kept_value run m_PrefixMap_kept_value
        simp -implicitDefEqProofs [-getElem?_pos, initE]
      have nk : (("kept_value" : Str) == ("bits" : Str)) = false := by decide +kernel
      exact ⟨_, rfl, by simp [wipeE], .int v, by simp -implicitDefEqProofs [-getElem?_pos, -List.getElem?_set_self, wipeE, hset, nk, hv, hm, keyD, List.lookup], trivial⟩) [] [] rfl (by simp) (by simp) (by simp [len2]; omega)
  have hC2 : C_PrefixMap___init___2 [Sl.sh (.ref l), .sh (.int z), .sh (.dct (F kvs)), .no] (st.set l (.ins "PrefixMap" [("bits", .int z)])) = .ok (.dct L) (st.set l (.ins "PrefixMap" [("bits", .int z)])) := by
    unfold C_PrefixMap___init___2
    rw [eDc_of (ds := (srtS (kvs.map (·.1))).map .str) (s := st.set l (.ins "PrefixMap" [("bits", .int z)])) (by
      have hkl : (kvs.map (·.1)).length < 64 := by simpa using hl
      simp -implicitDefEqProofs [-getElem?_pos, -List.getElem?_set_self, bSorted, keyTs_F, hl])]
    exact e2
  refine ⟨L, ?_, by simpa using e3⟩
  obtain ⟨f1, f2⟩ := ne_fld
  unfold D_PrefixMap___init__ run m_PrefixMap___init__
  simp -implicitDefEqProofs [-getElem?_pos, -List.getElem?_set_self, -List.map_map, initE, hi, tyN, k4, hC1, hb, hall, hst, putFD, hC2, hset, f2]
end DL
namespace DL
open PySem L2
/-- a map that stands sealed, over the keys of kvs -/
def IsMap (z : Nat) (kvs : List (Str × Int)) (d : D) : Prop := ∃ L, d = .ins "PrefixMap" [("bits", .int z), ("held", .dct L)] ∧ L.map (·.1) = (srtS (kvs.map (·.1))).map Sum.inr
theorem lookFld (z : Nat) (L : List (Key × D)) : ([(("bits" : Str), D.int z), (("held" : Str), D.dct L)] : List (Str × D)).lookup ("bits" : Str) = some (.int z) ∧ ([(("bits" : Str), D.int z), (("held" : Str), D.dct L)] : List (Str × D)).lookup ("held" : Str) = some (.dct L) := by
  obtain ⟨f1, _⟩ := ne_fld
  constructor
  · simp [List.lookup]
  · simp [List.lookup, f1]
theorem lookMeth (z : Nat) (L : List (Key × D)) : ([(("bits" : Str), D.int z), (("held" : Str), D.dct L)] : List (Str × D)).lookup ("longest" : Str) = none := by
  have h1 : (("longest" : Str) == ("bits" : Str)) = false := by decide +kernel
  have h2 : (("longest" : Str) == ("held" : Str)) = false := by decide +kernel
  simp [List.lookup, h1, h2]
/-- both agree -/
theorem agree {z : Nat} {kvs : List (Str × Int)} {m : D} (hm : IsMap z kvs m) (hk : ∀ y ∈ kvs.map (·.1), Bt y ∧ y.length ≤ z) (hz : z ≤ 32) {spot : Str} (hb : Bt spot) (hl : spot.length ≤ z) (st : Store) :
    ∃ r : Option Str, (∀ p, r = some p → Bt p ∧ p.length ≤ 32) ∧ D_PrefixMap_longest [m, .str spot] st = .ok (oD r) st ∧ D__law_match [.dct (F kvs), .str spot] st = .ok (oD r) st := by
  obtain ⟨L, rfl, h3⟩ := hm
  obtain ⟨r, e1, b1⟩ := longestX (lookFld z L).1 (lookFld z L).2 h3 hb hl (by omega) st
  obtain ⟨q, e2, b2⟩ := matchX (spot := spot) (kvs := kvs) (by omega) (fun y hy => by have := (hk y hy).2; omega) st
  have b1' : Best spot (kvs.map (·.1)) r := b1.perm fun k => (srtS_perm _).mem_iff.symm
  have := b1'.uniq b2
  subst this
  refine ⟨r, fun p hp => ?_, e1, e2⟩
  subst hp
  have := hk p b2.1
  exact ⟨this.1, by omega⟩
theorem oD_gd {r : Option Str} (h : ∀ p, r = some p → Bt p ∧ p.length ≤ 32) : Gd 0 1000 (oD r) := by
  cases r with
  | none => exact gd_non.mono (Nat.le_refl _) (by decide)
  | some p => obtain ⟨a, b⟩ := h p rfl; exact gd_str a.cs (by omega)
theorem b1_spec {z : Nat} {kvs : List (Str × Int)} {m : D} (hm : IsMap z kvs m) (hk : ∀ y ∈ kvs.map (·.1), Bt y ∧ y.length ≤ z) (hz : z ≤ 32) {spot : Str} (hb : Bt spot) (hl : spot.length ≤ z) (a0 a1 a2 a3 a6 a8 a9 a10 : Sl) (st : Store) :
    B_law_1 [a0, a1, a2, a3, .sh (.dct (F kvs)), .sh m, a6, .sh (.str spot), a8, a9, a10] st = .nx [a0, a1, a2, a3, .sh (.dct (F kvs)), .sh m, a6, .sh (.str spot), a8, a9, a10] st := by
  obtain ⟨r, hr, e1, e2⟩ := agree hm hk hz hb hl st
  have hg := (oD_gd hr).repr (by decide) (by decide) st
  have hd : deref st (oD r) = oD r := by cases r <;> rfl
  obtain ⟨L, rfl, h3⟩ := hm
  have hlk := lookMeth z L
  unfold B_law_1
  simp -implicitDefEqProofs [-getElem?_pos, -bRepr_ap, hlk, e1, e2, hg, hd, List.lookup_cons_self]
theorem b3_spec {z : Nat} {kvs : List (Str × Int)} {m : D} (hm : IsMap z kvs m) (hk : ∀ y ∈ kvs.map (·.1), Bt y ∧ y.length ≤ z) (hz : z ≤ 32) {spot : Str} (hb : Bt spot) (hl : spot.length ≤ z) (a0 a1 a2 a3 a6 a8 a9 a10 : Sl) (st : Store) :
    B_law_3 [a0, a1, a2, a3, .sh (.dct (F kvs)), .sh m, a6, .sh (.str spot), a8, a9, a10] st = .nx [a0, a1, a2, a3, .sh (.dct (F kvs)), .sh m, a6, .sh (.str spot), a8, a9, a10] st := by
  obtain ⟨r, hr, e1, e2⟩ := agree hm hk hz hb hl st
  have hd : deref st (oD r) = oD r := by cases r <;> rfl
  have he : dEq (oD r) (oD r) = some true := by cases r <;> simp [oD, dEq, sclEq]
  obtain ⟨L, rfl, h3⟩ := hm
  have hlk := lookMeth z L
  unfold B_law_3
  simp -implicitDefEqProofs [-getElem?_pos, hlk, e1, e2, hd, he, List.lookup_cons_self]
/-- making one -/
theorem makeX {ma mb : EM} {Γ : DEnv} {st s : Store} {z : Nat} {kvs : List (Str × Int)} (h : (eCons ma (eCons mb eNil)) Γ st = .ok (.tup [.int z, .dct (F kvs)]) s) (hz : 1 ≤ z ∧ z ≤ 32) (nd : (kvs.map (·.1)).Nodup) (hl : kvs.length < 64) (hk : ∀ y ∈ kvs.map (·.1), Bt y ∧ y.length ≤ z) :
    ∃ m, eMake "PrefixMap" D_PrefixMap___init__ (eCons ma (eCons mb eNil)) Γ st = .ok m (s ++ [.tomb]) ∧ IsMap z kvs m := by
  have hs : (s ++ [D.ins "PrefixMap" []])[s.length]? = some (.ins "PrefixMap" []) := by simp
  obtain ⟨L, e, hL⟩ := initX hs hz nd hl hk
  refine ⟨_, ?_, L, rfl, hL⟩
  rw [eMake_ap, h, ok_bind]
  dsimp only
  rw [e]
  simp
abbrev Gk (z : Nat) (x : Str) : Prop := Bt x ∧ x.length ≤ z
theorem b10 : Bt ("10" : Str) := by decide +kernel
theorem l10 : ("10" : Str).length = 2 := by decide +kernel
theorem b0 : Bt ("0" : Str) ∧ Bt ("1" : Str) ∧ Bt ("" : Str) := by decide +kernel
theorem l0 : ("0" : Str).length = 1 ∧ ("1" : Str).length = 1 ∧ ("" : Str).length = 0 := by decide +kernel
/-- the first spots -/
theorem c12 {z : Nat} {kvs : List (Str × Int)} (hz : z ≤ 32) (hk : ∀ y ∈ kvs.map (·.1), Gk z y) (hl : kvs.length < 64) (a0 a1 a2 a5 a6 a7 a8 a9 a10 : Sl) (st : Store) :
    ∃ xs ys : List Str, C_law_1 [a0, a1, a2, .sh (.int z), .sh (.dct (F kvs)), a5, a6, a7, a8, a9, a10] st = .ok (.lst (xs.map .str)) st ∧ C_law_2 [a0, a1, a2, .sh (.int z), .sh (.dct (F kvs)), a5, a6, a7, a8, a9, a10] st = .ok (.lst (ys.map .str)) st ∧ (∀ x ∈ xs, Gk z x) ∧ (∀ x ∈ ys, Gk z x) ∧ xs.length = kvs.length ∧ ys.length = kvs.length := by
  have h1 := lcL_map (g := gN 9) (me := eSl (eVarB 9) (eC .non) (eInt (eNeg (eC (.int 1))))) (Γ := wipeE [a0, a1, a2, .sh (.int z), .sh (.dct (F kvs)), a5, a6, a7, a8, a9, a10] [9]) (st := st)
    (f := fun d => match d with | .str y => .str (cutS y none (some (-1))) | d => d) (ds := (kvs.map (·.1)).map .str) (fun d hd => by
      obtain ⟨y, hy, rfl⟩ := List.mem_map.mp hd
      have hy2 : y.length ≤ 16777216 := by have := (hk y hy).2; omega
      exact ⟨_, rfl, by simp -implicitDefEqProofs (disch := assumption) [-getElem?_pos, wipeE]⟩) [] (by simp; omega)
  have h2 := lcL_map (g := gN 9) (me := eSl (eOp oAdd (eVarB 9) (eC (.str "10"))) (eC .non) (eInt (eVar 3))) (Γ := wipeE [a0, a1, a2, .sh (.int z), .sh (.dct (F kvs)), a5, a6, a7, a8, a9, a10] [9]) (st := st)
    (f := fun d => match d with | .str y => .str (cutS (y ++ ("10" : Str)) none (some (z : Int))) | d => d) (ds := (kvs.map (·.1)).map .str) (fun d hd => by
      obtain ⟨y, hy, rfl⟩ := List.mem_map.mp hd
      have hy1 : y.length + ("10" : Str).length ≤ 16777216 := by have := (hk y hy).2; rw [l10]; omega
      have hy2 : (y ++ ("10" : Str)).length ≤ 16777216 := by rw [strLen_append]; exact hy1
      exact ⟨_, rfl, by simp -implicitDefEqProofs (disch := assumption) [-getElem?_pos, wipeE]⟩) [] (by simp; omega)
  refine ⟨(kvs.map (·.1)).map fun y => cutS y none (some (-1)), (kvs.map (·.1)).map fun y => cutS (y ++ ("10" : Str)) none (some (z : Int)), ?_, ?_, ?_, ?_, by simp, by simp⟩
  · unfold C_law_1
    rw [eLc_of (ds := (kvs.map (·.1)).map .str) (s := st) (by simp only [eIterX_ap, eVar_ap, getE_0, getE_s, ok_bind]; rw [F_keys]), h1]
    rw [List.nil_append, List.map_map, List.map_map, List.map_map, List.map_map]; rfl
  · unfold C_law_2
    rw [eLc_of (ds := (kvs.map (·.1)).map .str) (s := st) (by simp only [eIterX_ap, eVar_ap, getE_0, getE_s, ok_bind]; rw [F_keys]), h2]
    rw [List.nil_append, List.map_map, List.map_map, List.map_map, List.map_map]; rfl
  · intro x hx
    obtain ⟨y, hy, rfl⟩ := List.mem_map.mp hx
    have := cut_len y none (some (-1))
    exact ⟨(hk y hy).1.cut _ _, by have := (hk y hy).2; omega⟩
  · intro x hx
    obtain ⟨y, hy, rfl⟩ := List.mem_map.mp hx
    exact ⟨((hk y hy).1.append b10).cut _ _, cut_hi _ _⟩
theorem c3 {ns : List Int} {c : Int} {e : Nat} {r st : Store} (hp : PenX ns c e r st) {z : Nat} (hz : z ≤ 32) (hc : c < 1000000) (a0 a2 a4 a5 a6 a7 a8 a9 a10 : Sl) :
    ∃ (xs : List Str) (st' : Store), C_law_3 [a0, .sh (.ref 0), a2, .sh (.int z), a4, a5, a6, a7, a8, a9, a10] st = .ok (.lst (xs.map .str)) st' ∧ (∀ x ∈ xs, Gk z x) ∧ xs.length = 6 ∧ PenX ns (c + 1000) e r st' := by
  obtain ⟨xs, st1, h1, hp1, hE, hl⟩ := lcL_ok (g := gN 10) (me := eCall D__law_bits (eCons (eVar 1) (eCons (eVar 3) eNil))) (Γ := wipeE [a0, .sh (.ref 0), a2, .sh (.int z), a4, a5, a6, a7, a8, a9, a10] [10])
    (E := fun d => ∃ x, Gk z x ∧ d = .str x) (ds := rng 0 1 6) (fun j s => PenX ns (c + 101 * j) e r s) (fun j d hd s hs => by
      have hj := (rng_at hd).1
      obtain ⟨x, s', ex, lx, bx, hs'⟩ := bitsX hs (z := z) (by omega) (by omega)
      refine ⟨_, rfl, .str x, s', ?_, ⟨x, ⟨bx, lx⟩, rfl⟩, hs'.mono (by omega)⟩
      simp -implicitDefEqProofs [-getElem?_pos, wipeE, ex]) st [] (hp.mono (by omega)) (by rw [rng_length]; decide)
  rw [rng_length] at hl hp1
  obtain ⟨ys, y1, y2⟩ := strs_of (fun x hx => let ⟨c, _, e⟩ := hE x hx; ⟨c, e⟩)
  refine ⟨ys, st1, ?_, fun x hx => ?_, by rw [← hl, y2]; simp, hp1.mono (by omega)⟩
  · unfold C_law_3
    rw [eLc_of (eRng1_n (n := 6) (s := st) (by simp -implicitDefEqProofs [-getElem?_pos]) (by decide)), h1, ← y2]; rfl
  · obtain ⟨x', h, e⟩ := hE (.str x) (by rw [y2]; exact List.mem_map_of_mem hx)
    cases e; exact h
theorem b2_spec {ns : List Int} {c : Int} {e : Nat} {r st : Store} (hp : PenX ns c e r st) (hc : 0 ≤ c ∧ c < 900000) (he : e < 100) (a0 a2 a3 a4 a5 a6 a7 a8 a9 a10 : Sl) :
    ∃ b3 b4 b5 b6 b7 b8 b9 b10 st' r', B_law_2 [a0, .sh (.ref 0), a2, a3, a4, a5, a6, a7, a8, a9, a10] st = .nx [a0, .sh (.ref 0), a2, b3, b4, b5, b6, b7, b8, b9, b10] st' ∧ PenX ns (c + 30000) (e + 1) r' st' := by
  obtain ⟨z, st1, e1, z1, z32, hp1⟩ := sizeX hp (by omega) (by omega)
  obtain ⟨kvs, st2, e2, nd, ln, gk, hp2⟩ := numbersX hp1 ⟨z1, z32⟩ (by omega)
  obtain ⟨m, e3, hm⟩ := makeX (ma := eVar 3) (mb := eVar 4) (Γ := [a0, .sh (.ref 0), a2, .sh (.int z), .sh (.dct (F kvs)), a5, a6, a7, a8, a9, a10]) (st := st2) (s := st2) (z := z) (kvs := kvs) (by simp -implicitDefEqProofs [-getElem?_pos]) ⟨z1, z32⟩ nd (by omega) gk
  have hp3 : PenX ns (c + 1 + 20000) (e + 1) (r ++ [.tomb]) (st2 ++ [.tomb]) := by
    obtain ⟨i, n, ext, h0, h1, h2, rfl⟩ := hp2
    exact ⟨i, n, ext, h0, h1, h2, rfl⟩
  obtain ⟨xs, ys, f1, f2, gx, gy, lx, ly⟩ := c12 z32 gk (by omega) a0 (.sh (.ref 0)) a2 (.sh m) a6 a7 a8 a9 a10 (st2 ++ [.tomb])
  have hfk := F_keys kvs
  let s1 : List Str := kvs.map (·.1) ++ xs ++ ys
  have e4 : (eOp oAdd (eOp oAdd (eB bListX (eCons (eVarB 4) eNil)) C_law_1) C_law_2) [a0, .sh (.ref 0), a2, .sh (.int z), .sh (.dct (F kvs)), .sh m, a6, a7, a8, a9, a10] (st2 ++ [.tomb]) = .ok (.lst (s1.map .str)) (st2 ++ [.tomb]) := by
    have a1 := oAdd_ls (kvs.map (·.1)) xs (st2 ++ [.tomb]) (by simp; omega)
    have a2 := oAdd_ls (kvs.map (·.1) ++ xs) ys (st2 ++ [.tomb]) (by simp; omega)
    simp -implicitDefEqProofs [-getElem?_pos, -List.map_map, -List.map_append, -List.append_assoc, -oAdd_l, f1, f2, hfk, a1, a2, s1]
  obtain ⟨zs, st4, f3, gz, lz, hp4⟩ := c3 hp3 z32 (by omega) a0 a2 (.sh (.dct (F kvs))) (.sh m) (.sh (.lst (s1.map .str))) a7 a8 a9 a10
  obtain ⟨bb0, bb1, bbe⟩ := b0
  obtain ⟨ll0, ll1, lle⟩ := l0
  let s2 : List Str := s1 ++ zs ++ [repS "0" z, repS "1" z, ""]
  have gs2 : ∀ x ∈ s2, Gk z x := by
    intro x hx
    simp only [s2, s1, List.mem_append, List.mem_cons, List.not_mem_nil, or_false] at hx
    rcases hx with (((hx | hx) | hx) | hx) | hx | hx | hx
    · exact gk x hx
    · exact gx x hx
    · exact gy x hx
    · exact gz x hx
    · subst hx; exact ⟨bb0.rep _, by rw [rep_len, ll0]; simp⟩
    · subst hx; exact ⟨bb1.rep _, by rw [rep_len, ll1]; simp⟩
    · subst hx; exact ⟨bbe, by rw [lle]; omega⟩
  have ls2 : s2.length ≤ 100 := by simp [s2, s1]; omega
  have e5 : (eOp oAdd (eOp oAdd (eVarB 6) C_law_3) (eLst (eCons (eOp oMulX (eC (.str "0")) (eVarB 3)) (eCons (eOp oMulX (eC (.str "1")) (eVarB 3)) (eCons (eC (.str "")) eNil))))) [a0, .sh (.ref 0), a2, .sh (.int z), .sh (.dct (F kvs)), .sh m, .sh (.lst (s1.map .str)), a7, a8, a9, a10] (st2 ++ [.tomb]) = .ok (.lst (s2.map .str)) st4 := by
    have m0 : (z : Int) < 16777216 ∧ -16777216 < (z : Int) ∧ ("0" : Str).length * (z : Int).toNat ≤ 16777216 := ⟨by omega, by omega, by rw [ll0]; simp; omega⟩
    have m1 : (z : Int) < 16777216 ∧ -16777216 < (z : Int) ∧ ("1" : Str).length * (z : Int).toNat ≤ 16777216 := ⟨by omega, by omega, by rw [ll1]; simp; omega⟩
    have q1 : s1.length ≤ 60 := by simp [s1]; omega
    have a1 := oAdd_ls s1 zs st4 (by omega)
    have a2 := oAdd_ls (s1 ++ zs) [repS "0" z, repS "1" z, ""] st4 (by simp; omega)
    simp only [List.map_cons, List.map_nil] at a2
    simp -implicitDefEqProofs (disch := assumption) [-getElem?_pos, -List.map_map, -List.map_append, -List.append_assoc, -oAdd_l, f3, a1, a2]
    simp only [s2]
  obtain ⟨Γ', st', f5, ⟨b7, rfl, rfl⟩⟩ := forL_ok (g := gN 7) (mb := B_law_1) (ds := s2.map .str ++ (s2.map D.str).reverse) (fun _ Γ s => ∃ b7, Γ = [a0, .sh (.ref 0), a2, .sh (.int z), .sh (.dct (F kvs)), .sh m, .sh (.lst (s2.map .str)), b7, a8, a9, a10] ∧ s = st4)
    (fun j d hd Γ s hi => by
      obtain ⟨b7, rfl, rfl⟩ := hi
      have hm' := List.mem_of_getElem? hd
      have : ∃ x ∈ s2, D.str x = d := by
        rcases List.mem_append.mp hm' with h | h
        · exact List.mem_map.mp h
        · exact List.mem_map.mp (List.mem_reverse.mp h)
      obtain ⟨x, hx, rfl⟩ := this
      exact ⟨_, rfl, _, _, b1_spec hm gk z32 (gs2 x hx).1 (gs2 x hx).2 _ _ _ _ _ _ _ _ _, _, rfl, rfl⟩)
    [a0, .sh (.ref 0), a2, .sh (.int z), .sh (.dct (F kvs)), .sh m, .sh (.lst (s2.map .str)), a7, a8, a9, a10] st4 ⟨_, rfl, rfl⟩
  have e6 : eIterX (eOp oAdd (eVarB 6) (eRev (eVarB 6))) [a0, .sh (.ref 0), a2, .sh (.int z), .sh (.dct (F kvs)), .sh m, .sh (.lst (s2.map .str)), a7, a8, a9, a10] st' = .ok (.tup (s2.map .str ++ (s2.map D.str).reverse)) st' := by
    have a1 := oAdd_l (x := s2.map D.str) (y := (s2.map D.str).reverse) (st := st') (by simp; omega)
    simp -implicitDefEqProofs [-getElem?_pos, -List.map_map, -List.map_reverse, -oAdd_l, a1]
  refine ⟨.sh (.int z), .sh (.dct (F kvs)), .sh m, .sh (.lst (s2.map .str)), b7, a8, a9, a10, st', _, ?_, hp4.mono (by omega)⟩
  unfold B_law_2
  rw [sSeq_ap, sAsg_ap, show (eCall D__law_size (eCons (eVar 1) eNil)) [a0, .sh (.ref 0), a2, a3, a4, a5, a6, a7, a8, a9, a10] st = .ok (.int z) st1 by simp -implicitDefEqProofs [-getElem?_pos, e1]]
  simp -implicitDefEqProofs only [ok_bs, nx_bind, List.set_cons_succ, List.set_cons_zero]
  rw [sSeq_ap, sAsg_ap, show (eCall D__law_numbers (eCons (eVar 1) (eCons (eVar 3) eNil))) [a0, .sh (.ref 0), a2, .sh (.int z), a4, a5, a6, a7, a8, a9, a10] st1 = .ok (.dct (F kvs)) st2 by simp -implicitDefEqProofs [-getElem?_pos, e2]]
  simp -implicitDefEqProofs only [ok_bs, nx_bind, List.set_cons_succ, List.set_cons_zero]
  rw [sSeq_ap, sAsg_ap, e3]
  simp -implicitDefEqProofs only [ok_bs, nx_bind, List.set_cons_succ, List.set_cons_zero]
  rw [sSeq_ap, sAsg_ap, e4]
  simp -implicitDefEqProofs only [ok_bs, nx_bind, List.set_cons_succ, List.set_cons_zero]
  rw [sSeq_ap, sAsg_ap, e5]
  simp -implicitDefEqProofs only [ok_bs, nx_bind, List.set_cons_succ, List.set_cons_zero]
  rw [sFor_of e6, f5]
theorem pairs_all : ∀ {xs : List D}, (∀ x ∈ xs, ∃ (y : Str) (v : Int), Gk 32 y ∧ x = .tup [.str y, .int v]) → ∃ ps : List (Str × Int), xs = ps.map (fun p => .tup [.str p.1, .int p.2]) ∧ ∀ p ∈ ps, Gk 32 p.1
  | [], _ => ⟨[], rfl, by simp⟩
  | x :: xs, h => by
    obtain ⟨y, v, g, rfl⟩ := h x List.mem_cons_self
    obtain ⟨ps, rfl, hp⟩ := pairs_all fun z hz => h z (List.mem_cons_of_mem _ hz)
    refine ⟨(y, v) :: ps, rfl, fun p hp' => ?_⟩
    rcases List.mem_cons.mp hp' with rfl | hp'
    · exact g
    · exact hp p hp'
theorem rep0 (k : Nat) (h : k ≤ 100) : (k : Int) < 16777216 ∧ -16777216 < (k : Int) ∧ ("0" : Str).length * (k : Int).toNat ≤ 16777216 := ⟨by omega, by omega, by rw [l0.1]; simp; omega⟩
theorem rep1 (k : Nat) (h : k ≤ 100) : (k : Int) < 16777216 ∧ -16777216 < (k : Int) ∧ ("1" : Str).length * (k : Int).toNat ≤ 16777216 := ⟨by omega, by omega, by rw [l0.2.1]; simp; omega⟩
theorem len0 (k : Nat) : (repS "0" (k : Int)).length = k := by rw [rep_len, l0.1]; simp
theorem len1 (k : Nat) : (repS "1" (k : Int)).length = k := by rw [rep_len, l0.2.1]; simp
theorem c45 (a0 a1 a2 a3 a4 a5 a6 a7 a8 a9 a10 : Sl) (st : Store) :
    ∃ ps : List (Str × Int), (eOp oAdd C_law_4 C_law_5) [a0, a1, a2, a3, a4, a5, a6, a7, a8, a9, a10] st = .ok (.lst (ps.map fun p => .tup [.str p.1, .int p.2])) st ∧ (∀ p ∈ ps, Gk 32 p.1) ∧ ps.length = 40 := by
  obtain ⟨bb0, bb1, bbe⟩ := b0
  obtain ⟨xs, st1, h1, q1, hE, hl⟩ := lcL_ok (g := gN 8) (me := eTup (eCons (eSl (eOp oAdd (eOp oMulX (eC (.str "0")) (eVarB 8)) (eC (.str "1"))) (eC .non) (eInt (eC (.int 32)))) (eCons (eVar 8) eNil))) (Γ := wipeE [a0, a1, a2, a3, a4, a5, a6, a7, a8, a9, a10] [8])
    (E := fun x => ∃ (y : Str) (v : Int), Gk 32 y ∧ x = .tup [.str y, .int v]) (ds := rng 0 1 31) (fun _ s => s = st) (fun j d hd s hs => by
      obtain ⟨hj, rfl⟩ := rng_at hd
      subst hs
      have e : (0 : Int) + (j : Int) * 1 = (j : Int) := by omega
      rw [e]
      have m0 := rep0 j (by omega)
      have n1 : (repS "0" (j : Int)).length + ("1" : Str).length ≤ 16777216 := by rw [len0, l0.2.1]; omega
      have n2 : (repS "0" (j : Int) ++ ("1" : Str)).length ≤ 16777216 := by rw [strLen_append]; exact n1
      refine ⟨_, rfl, .tup [.str (cutS (repS "0" (j : Int) ++ ("1" : Str)) none (some 32)), .int j], s, ?_, ⟨_, _, ⟨((bb0.rep _).append bb1).cut _ _, cut_hi _ 32⟩, rfl⟩, rfl⟩
      simp -implicitDefEqProofs (disch := assumption) [-getElem?_pos, wipeE]) st [] rfl (by rw [rng_length]; decide)
  obtain ⟨ys, st2, h2, q2, hE2, hl2⟩ := lcL_ok (g := gN 8) (me := eTup (eCons (eOp oMulX (eC (.str "1")) (eVarB 8)) (eCons (eVar 8) eNil))) (Γ := wipeE [a0, a1, a2, a3, a4, a5, a6, a7, a8, a9, a10] [8])
    (E := fun x => ∃ (y : Str) (v : Int), Gk 32 y ∧ x = .tup [.str y, .int v]) (ds := rng 0 1 9) (fun _ s => s = st) (fun j d hd s hs => by
      obtain ⟨hj, rfl⟩ := rng_at hd
      subst hs
      have e : (0 : Int) + (j : Int) * 1 = (j : Int) := by omega
      rw [e]
      have m0 := rep1 j (by omega)
      refine ⟨_, rfl, .tup [.str (repS "1" (j : Int)), .int j], s, ?_, ⟨_, _, ⟨bb1.rep _, by rw [len1]; omega⟩, rfl⟩, rfl⟩
      simp -implicitDefEqProofs (disch := assumption) [-getElem?_pos, wipeE]) st [] rfl (by rw [rng_length]; decide)
  subst q1; subst q2
  rw [rng_length] at hl hl2
  obtain ⟨ps, rfl, g1⟩ := pairs_all hE
  obtain ⟨qs, rfl, g2⟩ := pairs_all hE2
  have lp : ps.length = 31 := by simpa using hl
  have lq : qs.length = 9 := by simpa using hl2
  refine ⟨ps ++ qs, ?_, fun p hp => (List.mem_append.mp hp).elim (g1 p) (g2 p), by simp [lp, lq]⟩
  have c4 : C_law_4 [a0, a1, a2, a3, a4, a5, a6, a7, a8, a9, a10] st2 = .ok (.lst (ps.map fun p => .tup [.str p.1, .int p.2])) st2 := by
    unfold C_law_4
    rw [eLc_of (eRng1_n (n := 31) (s := st2) (by simp -implicitDefEqProofs [-getElem?_pos]) (by decide))]
    simpa using h1
  have c5 : C_law_5 [a0, a1, a2, a3, a4, a5, a6, a7, a8, a9, a10] st2 = .ok (.lst (qs.map fun p => .tup [.str p.1, .int p.2])) st2 := by
    unfold C_law_5
    rw [eLc_of (eRng1_n (n := 9) (s := st2) (by simp -implicitDefEqProofs [-getElem?_pos]) (by decide))]
    simpa using h2
  have a1 := oAdd_l (x := ps.map fun p => D.tup [.str p.1, .int p.2]) (y := qs.map fun p => D.tup [.str p.1, .int p.2]) (st := st2) (by simp [lp, lq])
  simp -implicitDefEqProofs [-getElem?_pos, -oAdd_l, c4, c5, a1]
theorem b4_spec {kvs : List (Str × Int)} {m : D} (hm : IsMap 32 kvs m) (hk : ∀ y ∈ kvs.map (·.1), Bt y ∧ y.length ≤ 32) {k : Nat} (hk32 : k ≤ 32) (a0 a1 a2 a3 a6 a7 a9 a10 : Sl) (st : Store) :
    ∃ b7, B_law_4 [a0, a1, a2, a3, .sh (.dct (F kvs)), .sh m, a6, a7, .sh (.int k), a9, a10] st = .nx [a0, a1, a2, a3, .sh (.dct (F kvs)), .sh m, a6, b7, .sh (.int k), a9, a10] st := by
  obtain ⟨bb0, bb1, bbe⟩ := b0
  have hsub : (32 : Int) - (k : Int) = ((32 - k : Nat) : Int) := by omega
  have m0 := rep0 k (by omega)
  have m1 := rep1 k (by omega)
  have m2 := rep1 (32 - k) (by omega)
  have n1 : (repS "0" (k : Int)).length + (repS "1" ((32 - k : Nat) : Int)).length ≤ 16777216 := by rw [len0, len1]; omega
  have n2 : (repS "0" (k : Int) ++ repS "1" ((32 - k : Nat) : Int)).length = 32 := by rw [strLen_append, len0, len1]; omega
  obtain ⟨Γ', st', f1, ⟨b7, rfl, rfl⟩⟩ := forL_ok (g := gN 7) (mb := B_law_3) (ds := [.str (repS "0" (k : Int) ++ repS "1" ((32 - k : Nat) : Int)), .str (repS "0" (k : Int)), .str (repS "1" (k : Int))]) (fun _ Γ s => ∃ b7, Γ = [a0, a1, a2, a3, .sh (.dct (F kvs)), .sh m, a6, b7, .sh (.int k), a9, a10] ∧ s = st)
    (fun j d hd Γ s hi => by
      obtain ⟨b7, rfl, rfl⟩ := hi
      have : ∃ x, d = .str x ∧ Gk 32 x := by
        have := List.mem_of_getElem? hd
        simp only [List.mem_cons, List.not_mem_nil, or_false] at this
        rcases this with rfl | rfl | rfl
        · exact ⟨_, rfl, (bb0.rep _).append (bb1.rep _), by omega⟩
        · exact ⟨_, rfl, bb0.rep _, by rw [len0]; omega⟩
        · exact ⟨_, rfl, bb1.rep _, by rw [len1]; omega⟩
      obtain ⟨x, rfl, hx⟩ := this
      exact ⟨_, rfl, _, _, b3_spec hm hk (by decide) hx.1 hx.2 _ _ _ _ _ _ _ _ _, _, rfl, rfl⟩)
    [a0, a1, a2, a3, .sh (.dct (F kvs)), .sh m, a6, a7, .sh (.int k), a9, a10] st ⟨_, rfl, rfl⟩
  refine ⟨b7, ?_⟩
  unfold B_law_4
  rw [sFor_of (ds := [.str (repS "0" (k : Int) ++ repS "1" ((32 - k : Nat) : Int)), .str (repS "0" (k : Int)), .str (repS "1" (k : Int))]) (s := st') (by
    simp -implicitDefEqProofs (disch := assumption) [-getElem?_pos, hsub])]
  exact f1
theorem law_spec {ns : List Int} (h : ns.length ≤ 63) : ∃ st', D_law [.scr ns] [] = .ok (.bl true) st' := by
  have h1 : D__law_pen [.scr ns] [] = .ok (.ref 0) [penD (ns.take 60) 0 0 []] := pen_spec (st := []) h
  obtain ⟨Γ1, st1, f1, ⟨a2, a3, a4, a5, a6, a7, a8, a9, a10, r, rfl, hp⟩⟩ := forL_ok (g := gN 2) (mb := B_law_2) (ds := rng 0 1 6)
    (fun j Γ s => ∃ (a2 a3 a4 a5 a6 a7 a8 a9 a10 : Sl) (r : Store), Γ = [.sh (.scr ns), .sh (.ref 0), a2, a3, a4, a5, a6, a7, a8, a9, a10] ∧ PenX (ns.take 60) (30000 * j) j r s)
    (fun j d hd Γ s hi => by
      obtain ⟨hj, rfl⟩ := rng_at hd
      obtain ⟨a2, a3, a4, a5, a6, a7, a8, a9, a10, r, rfl, hs⟩ := hi
      obtain ⟨b3, b4, b5, b6, b7, b8, b9, b10, st', r', e, hs'⟩ := b2_spec hs (by omega) (by omega) (.sh (.scr ns)) (.sh (.int (0 + (j : Int) * 1))) a3 a4 a5 a6 a7 a8 a9 a10
      exact ⟨_, rfl, _, _, e, _, _, _, _, _, _, _, _, _, r', rfl, hs'.mono (by omega)⟩)
    [.sh (.scr ns), .sh (.ref 0), .no, .no, .no, .no, .no, .no, .no, .no, .no] [penD (ns.take 60) 0 0 []] ⟨_, _, _, _, _, _, _, _, _, [], rfl, 0, 0, [], Int.le_refl _, by simp, by simp, rfl⟩
  obtain ⟨ps, e2, gp, lp⟩ := c45 (.sh (.scr ns)) (.sh (.ref 0)) a2 a3 a4 a5 a6 a7 a8 a9 a10 st1
  obtain ⟨kvs, m1, m2, m3, m4⟩ := F_merge ps [] (by simp)
  have gk : ∀ y ∈ kvs.map (·.1), Bt y ∧ y.length ≤ 32 := fun y hy => by
    rcases (m3 y).mp hy with h | h
    · obtain ⟨p, hp, rfl⟩ := List.mem_map.mp h
      exact gp p hp
    · simp at h
  have m1' : mergeD [] (F ps) = F kvs := m1
  have e3 : (eB bDictX (eCons (eOp oAdd C_law_4 C_law_5) eNil)) [.sh (.scr ns), .sh (.ref 0), a2, a3, a4, a5, a6, a7, a8, a9, a10] st1 = .ok (.dct (F kvs)) st1 := by
    rw [eB_ap, eCons_ap, e2]
    simp -implicitDefEqProofs [pairsD_F, m1']
  obtain ⟨m, e4, hm⟩ := makeX (ma := eC (.int 32)) (mb := eVar 4) (Γ := [.sh (.scr ns), .sh (.ref 0), a2, a3, .sh (.dct (F kvs)), a5, a6, a7, a8, a9, a10]) (st := st1) (s := st1) (z := 32) (kvs := kvs) (by simp -implicitDefEqProofs [-getElem?_pos]) (by decide) m2 (by simp at m4; omega) gk
  obtain ⟨Γ2, st2, f2, ⟨b7, b8, rfl, rfl⟩⟩ := forL_ok (g := gN 8) (mb := B_law_4) (ds := rng 0 1 33)
    (fun j Γ s => ∃ (b7 b8 : Sl), Γ = [.sh (.scr ns), .sh (.ref 0), a2, a3, .sh (.dct (F kvs)), .sh m, a6, b7, b8, a9, a10] ∧ s = st1 ++ [.tomb])
    (fun j d hd Γ s hi => by
      obtain ⟨hj, rfl⟩ := rng_at hd
      obtain ⟨b7, b8, rfl, rfl⟩ := hi
      have e : (0 : Int) + (j : Int) * 1 = (j : Int) := by omega
      rw [e]
      obtain ⟨c7, hc⟩ := b4_spec hm gk (k := j) (by omega) (.sh (.scr ns)) (.sh (.ref 0)) a2 a3 a6 b7 a9 a10 (st1 ++ [.tomb])
      exact ⟨_, rfl, _, _, hc, _, _, rfl, rfl⟩)
    [.sh (.scr ns), .sh (.ref 0), a2, a3, .sh (.dct (F kvs)), .sh m, a6, a7, a8, a9, a10] (st1 ++ [.tomb]) ⟨_, _, rfl, rfl⟩
  refine ⟨st1 ++ [.tomb], ?_⟩
  have g1 := sFor_of (mi := eRng1 (eCons (eC (.int 6)) eNil)) (g := gN 2) (b := B_law_2) (Γ := [.sh (.scr ns), .sh (.ref 0), .no, .no, .no, .no, .no, .no, .no, .no, .no]) (st := [penD (ns.take 60) 0 0 []]) (s := [penD (ns.take 60) 0 0 []]) (ds := rng 0 1 6) (eRng1_n (n := 6) (by simp -implicitDefEqProofs [-getElem?_pos]) (by decide))
  have g2 := sFor_of (mi := eRng1 (eCons (eC (.int 33)) eNil)) (g := gN 8) (b := B_law_4) (Γ := [.sh (.scr ns), .sh (.ref 0), a2, a3, .sh (.dct (F kvs)), .sh m, a6, a7, a8, a9, a10]) (st := st1 ++ [.tomb]) (s := st1 ++ [.tomb]) (ds := rng 0 1 33) (eRng1_n (n := 33) (by simp -implicitDefEqProofs [-getElem?_pos]) (by decide))
  unfold D_law run m_law
  rw [if_pos (c := [D.scr ns].length = [("script" : Str)].length) rfl]
  have i0 : initE ["script", "pen", "turn", "size", "lines", "some", "spots", "spot", "k", "prefix", "more"] [.scr ns] = [.sh (.scr ns), .no, .no, .no, .no, .no, .no, .no, .no, .no, .no] := rfl
  rw [i0, sSeq_ap, sAsg_ap, show (eCall D__law_pen (eCons (eVar 0) eNil)) [.sh (.scr ns), .no, .no, .no, .no, .no, .no, .no, .no, .no, .no] [] = .ok (.ref 0) [penD (ns.take 60) 0 0 []] by simp -implicitDefEqProofs [-getElem?_pos, h1]]
  simp -implicitDefEqProofs only [ok_bs, nx_bind, List.set_cons_succ, List.set_cons_zero]
  rw [sSeq_ap, g1, f1]
  simp -implicitDefEqProofs only [nx_bind]
  rw [sSeq_ap, sAsg_ap, e3]
  simp -implicitDefEqProofs only [ok_bs, nx_bind, List.set_cons_succ, List.set_cons_zero]
  rw [sSeq_ap, sAsg_ap, e4]
  simp -implicitDefEqProofs only [ok_bs, nx_bind, List.set_cons_succ, List.set_cons_zero]
  rw [sSeq_ap, g2, f2]
  simp -implicitDefEqProofs
end DL
namespace DL
open PySem PySem.Spec PyProof.Rows L2
theorem all_mk {l : PySem.W.OpenLaw} {w : World} {K : PySem.W.Frag} {h : Heap} {mg : Str → Option Value} {fa : Addr} (X : K.In h) (G : h.Ns mainGlobals mg) (hfa : mg "law" = some (.ref fa))
    {f_PrefixMap : Addr} (a_PrefixMap : PySem.W.nsIn K mainGlobals "PrefixMap" = some (some (.ref f_PrefixMap)))
    (pg_PrefixMap : PySem.W.plainGet K f_PrefixMap Str.empty = true) (hd_PrefixMap : PySem.W.hasDictIn K f_PrefixMap = true) (po_PrefixMap : PySem.W.plainOver K f_PrefixMap = true) (sa_PrefixMap : PySem.W.findIn K (.ref f_PrefixMap) "__setattr__" = some (some (.builtin "object.__setattr__")))
    {f__law_pen : Addr} {od__law_pen an__law_pen : Option Addr} {sl__law_pen : Array (Option Value)} {oc__law_pen kV__law_pen dc__law_pen pm__law_pen cd__law_pen ct__law_pen : Value}
    (a__law_pen : PySem.W.nsIn K mainGlobals "_law_pen" = some (some (.ref f__law_pen)))
    (l__law_pen : K.lookup f__law_pen = some ⟨oc__law_pen, od__law_pen, .func (PySem.W.fnOf "_law_pen" "_law_pen" (defArgs s__law_pen) (defBody s__law_pen) (defScope s__law_pen) .none kV__law_pen dc__law_pen pm__law_pen an__law_pen cd__law_pen ct__law_pen), sl__law_pen⟩) (c__law_pen : PySem.W.codeIn K cd__law_pen "_law_pen" = true) (k__law_pen : PySem.W.keepIn K (.ref f__law_pen) = true)
    {f__law_next : Addr} {od__law_next an__law_next : Option Addr} {sl__law_next : Array (Option Value)} {oc__law_next kV__law_next dc__law_next pm__law_next cd__law_next ct__law_next : Value}
    (a__law_next : PySem.W.nsIn K mainGlobals "_law_next" = some (some (.ref f__law_next)))
    (l__law_next : K.lookup f__law_next = some ⟨oc__law_next, od__law_next, .func (PySem.W.fnOf "_law_next" "_law_next" (defArgs s__law_next) (defBody s__law_next) (defScope s__law_next) .none kV__law_next dc__law_next pm__law_next an__law_next cd__law_next ct__law_next), sl__law_next⟩) (c__law_next : PySem.W.codeIn K cd__law_next "_law_next" = true) (k__law_next : PySem.W.keepIn K (.ref f__law_next) = true)
    {f__law_draw : Addr} {od__law_draw an__law_draw : Option Addr} {sl__law_draw : Array (Option Value)} {oc__law_draw kV__law_draw dc__law_draw pm__law_draw cd__law_draw ct__law_draw : Value}
    (a__law_draw : PySem.W.nsIn K mainGlobals "_law_draw" = some (some (.ref f__law_draw)))
    (l__law_draw : K.lookup f__law_draw = some ⟨oc__law_draw, od__law_draw, .func (PySem.W.fnOf "_law_draw" "_law_draw" (defArgs s__law_draw) (defBody s__law_draw) (defScope s__law_draw) .none kV__law_draw dc__law_draw pm__law_draw an__law_draw cd__law_draw ct__law_draw), sl__law_draw⟩) (c__law_draw : PySem.W.codeIn K cd__law_draw "_law_draw" = true) (k__law_draw : PySem.W.keepIn K (.ref f__law_draw) = true)
    {f__law_bits : Addr} {od__law_bits an__law_bits : Option Addr} {sl__law_bits : Array (Option Value)} {oc__law_bits kV__law_bits dc__law_bits pm__law_bits cd__law_bits ct__law_bits : Value}
    (a__law_bits : PySem.W.nsIn K mainGlobals "_law_bits" = some (some (.ref f__law_bits)))
    (l__law_bits : K.lookup f__law_bits = some ⟨oc__law_bits, od__law_bits, .func (PySem.W.fnOf "_law_bits" "_law_bits" (defArgs s__law_bits) (defBody s__law_bits) (defScope s__law_bits) .none kV__law_bits dc__law_bits pm__law_bits an__law_bits cd__law_bits ct__law_bits), sl__law_bits⟩) (c__law_bits : PySem.W.codeIn K cd__law_bits "_law_bits" = true) (k__law_bits : PySem.W.keepIn K (.ref f__law_bits) = true)
    {f__law_size : Addr} {od__law_size an__law_size : Option Addr} {sl__law_size : Array (Option Value)} {oc__law_size kV__law_size dc__law_size pm__law_size cd__law_size ct__law_size : Value}
    (a__law_size : PySem.W.nsIn K mainGlobals "_law_size" = some (some (.ref f__law_size)))
    (l__law_size : K.lookup f__law_size = some ⟨oc__law_size, od__law_size, .func (PySem.W.fnOf "_law_size" "_law_size" (defArgs s__law_size) (defBody s__law_size) (defScope s__law_size) .none kV__law_size dc__law_size pm__law_size an__law_size cd__law_size ct__law_size), sl__law_size⟩) (c__law_size : PySem.W.codeIn K cd__law_size "_law_size" = true) (k__law_size : PySem.W.keepIn K (.ref f__law_size) = true)
    {f__law_prefixes : Addr} {od__law_prefixes an__law_prefixes : Option Addr} {sl__law_prefixes : Array (Option Value)} {oc__law_prefixes kV__law_prefixes dc__law_prefixes pm__law_prefixes cd__law_prefixes ct__law_prefixes : Value}
    (a__law_prefixes : PySem.W.nsIn K mainGlobals "_law_prefixes" = some (some (.ref f__law_prefixes)))
    (l__law_prefixes : K.lookup f__law_prefixes = some ⟨oc__law_prefixes, od__law_prefixes, .func (PySem.W.fnOf "_law_prefixes" "_law_prefixes" (defArgs s__law_prefixes) (defBody s__law_prefixes) (defScope s__law_prefixes) .none kV__law_prefixes dc__law_prefixes pm__law_prefixes an__law_prefixes cd__law_prefixes ct__law_prefixes), sl__law_prefixes⟩) (c__law_prefixes : PySem.W.codeIn K cd__law_prefixes "_law_prefixes" = true) (k__law_prefixes : PySem.W.keepIn K (.ref f__law_prefixes) = true)
    {f__law_numbers : Addr} {od__law_numbers an__law_numbers : Option Addr} {sl__law_numbers : Array (Option Value)} {oc__law_numbers kV__law_numbers dc__law_numbers pm__law_numbers cd__law_numbers ct__law_numbers : Value}
    (a__law_numbers : PySem.W.nsIn K mainGlobals "_law_numbers" = some (some (.ref f__law_numbers)))
    (l__law_numbers : K.lookup f__law_numbers = some ⟨oc__law_numbers, od__law_numbers, .func (PySem.W.fnOf "_law_numbers" "_law_numbers" (defArgs s__law_numbers) (defBody s__law_numbers) (defScope s__law_numbers) .none kV__law_numbers dc__law_numbers pm__law_numbers an__law_numbers cd__law_numbers ct__law_numbers), sl__law_numbers⟩) (c__law_numbers : PySem.W.codeIn K cd__law_numbers "_law_numbers" = true) (k__law_numbers : PySem.W.keepIn K (.ref f__law_numbers) = true)
    {f__law_match : Addr} {od__law_match an__law_match : Option Addr} {sl__law_match : Array (Option Value)} {oc__law_match kV__law_match dc__law_match pm__law_match cd__law_match ct__law_match : Value}
    (a__law_match : PySem.W.nsIn K mainGlobals "_law_match" = some (some (.ref f__law_match)))
    (l__law_match : K.lookup f__law_match = some ⟨oc__law_match, od__law_match, .func (PySem.W.fnOf "_law_match" "_law_match" (defArgs s__law_match) (defBody s__law_match) (defScope s__law_match) .none kV__law_match dc__law_match pm__law_match an__law_match cd__law_match ct__law_match), sl__law_match⟩) (c__law_match : PySem.W.codeIn K cd__law_match "_law_match" = true) (k__law_match : PySem.W.keepIn K (.ref f__law_match) = true)
    {f_is_integer : Addr} {od_is_integer an_is_integer : Option Addr} {sl_is_integer : Array (Option Value)} {oc_is_integer kV_is_integer dc_is_integer pm_is_integer cd_is_integer ct_is_integer : Value}
    (a_is_integer : PySem.W.nsIn K mainGlobals "is_integer" = some (some (.ref f_is_integer)))
    (l_is_integer : K.lookup f_is_integer = some ⟨oc_is_integer, od_is_integer, .func (PySem.W.fnOf "is_integer" "is_integer" (defArgs s_is_integer) (defBody s_is_integer) (defScope s_is_integer) .none kV_is_integer dc_is_integer pm_is_integer an_is_integer cd_is_integer ct_is_integer), sl_is_integer⟩) (c_is_integer : PySem.W.codeIn K cd_is_integer "is_integer" = true) (k_is_integer : PySem.W.keepIn K (.ref f_is_integer) = true)
    {f_is_prefix : Addr} {od_is_prefix an_is_prefix : Option Addr} {sl_is_prefix : Array (Option Value)} {oc_is_prefix kV_is_prefix dc_is_prefix pm_is_prefix cd_is_prefix ct_is_prefix : Value}
    (a_is_prefix : PySem.W.nsIn K mainGlobals "is_prefix" = some (some (.ref f_is_prefix)))
    (l_is_prefix : K.lookup f_is_prefix = some ⟨oc_is_prefix, od_is_prefix, .func (PySem.W.fnOf "is_prefix" "is_prefix" (defArgs s_is_prefix) (defBody s_is_prefix) (defScope s_is_prefix) .none kV_is_prefix dc_is_prefix pm_is_prefix an_is_prefix cd_is_prefix ct_is_prefix), sl_is_prefix⟩) (c_is_prefix : PySem.W.codeIn K cd_is_prefix "is_prefix" = true) (k_is_prefix : PySem.W.keepIn K (.ref f_is_prefix) = true)
    {f_PrefixMap_is_value : Addr} {od_PrefixMap_is_value an_PrefixMap_is_value : Option Addr} {sl_PrefixMap_is_value : Array (Option Value)} {oc_PrefixMap_is_value kV_PrefixMap_is_value dc_PrefixMap_is_value pm_PrefixMap_is_value cd_PrefixMap_is_value ct_PrefixMap_is_value : Value}
    (a_PrefixMap_is_value : PySem.W.findIn K (.ref f_PrefixMap) "is_value" = some (some (.ref f_PrefixMap_is_value))) (i_PrefixMap_is_value : PySem.W.isFn K (.ref f_PrefixMap_is_value) = true)
    (l_PrefixMap_is_value : K.lookup f_PrefixMap_is_value = some ⟨oc_PrefixMap_is_value, od_PrefixMap_is_value, .func (PySem.W.fnOf "is_value" "PrefixMap.is_value" (defArgs s_PrefixMap_is_value) (defBody s_PrefixMap_is_value) (defScope s_PrefixMap_is_value) .none kV_PrefixMap_is_value dc_PrefixMap_is_value pm_PrefixMap_is_value an_PrefixMap_is_value cd_PrefixMap_is_value ct_PrefixMap_is_value), sl_PrefixMap_is_value⟩) (c_PrefixMap_is_value : PySem.W.codeIn K cd_PrefixMap_is_value "PrefixMap.is_value" = true) (k_PrefixMap_is_value : PySem.W.keepIn K (.ref f_PrefixMap_is_value) = true)
    {f_PrefixMap_kept_value : Addr} {od_PrefixMap_kept_value an_PrefixMap_kept_value : Option Addr} {sl_PrefixMap_kept_value : Array (Option Value)} {oc_PrefixMap_kept_value kV_PrefixMap_kept_value dc_PrefixMap_kept_value pm_PrefixMap_kept_value cd_PrefixMap_kept_value ct_PrefixMap_kept_value : Value}
    (a_PrefixMap_kept_value : PySem.W.findIn K (.ref f_PrefixMap) "kept_value" = some (some (.ref f_PrefixMap_kept_value))) (i_PrefixMap_kept_value : PySem.W.isFn K (.ref f_PrefixMap_kept_value) = true)
    (l_PrefixMap_kept_value : K.lookup f_PrefixMap_kept_value = some ⟨oc_PrefixMap_kept_value, od_PrefixMap_kept_value, .func (PySem.W.fnOf "kept_value" "PrefixMap.kept_value" (defArgs s_PrefixMap_kept_value) (defBody s_PrefixMap_kept_value) (defScope s_PrefixMap_kept_value) .none kV_PrefixMap_kept_value dc_PrefixMap_kept_value pm_PrefixMap_kept_value an_PrefixMap_kept_value cd_PrefixMap_kept_value ct_PrefixMap_kept_value), sl_PrefixMap_kept_value⟩) (c_PrefixMap_kept_value : PySem.W.codeIn K cd_PrefixMap_kept_value "PrefixMap.kept_value" = true) (k_PrefixMap_kept_value : PySem.W.keepIn K (.ref f_PrefixMap_kept_value) = true)
    {f_PrefixMap___init__ : Addr} {od_PrefixMap___init__ an_PrefixMap___init__ : Option Addr} {sl_PrefixMap___init__ : Array (Option Value)} {oc_PrefixMap___init__ kV_PrefixMap___init__ dc_PrefixMap___init__ pm_PrefixMap___init__ cd_PrefixMap___init__ ct_PrefixMap___init__ : Value}
    (a_PrefixMap___init__ : PySem.W.findIn K (.ref f_PrefixMap) "__init__" = some (some (.ref f_PrefixMap___init__))) (i_PrefixMap___init__ : PySem.W.isFn K (.ref f_PrefixMap___init__) = true)
    (l_PrefixMap___init__ : K.lookup f_PrefixMap___init__ = some ⟨oc_PrefixMap___init__, od_PrefixMap___init__, .func (PySem.W.fnOf "__init__" "PrefixMap.__init__" (defArgs s_PrefixMap___init__) (defBody s_PrefixMap___init__) (defScope s_PrefixMap___init__) .none kV_PrefixMap___init__ dc_PrefixMap___init__ pm_PrefixMap___init__ an_PrefixMap___init__ cd_PrefixMap___init__ ct_PrefixMap___init__), sl_PrefixMap___init__⟩) (c_PrefixMap___init__ : PySem.W.codeIn K cd_PrefixMap___init__ "PrefixMap.__init__" = true) (k_PrefixMap___init__ : PySem.W.keepIn K (.ref f_PrefixMap___init__) = true)
    {f_PrefixMap_longest : Addr} {od_PrefixMap_longest an_PrefixMap_longest : Option Addr} {sl_PrefixMap_longest : Array (Option Value)} {oc_PrefixMap_longest kV_PrefixMap_longest dc_PrefixMap_longest pm_PrefixMap_longest cd_PrefixMap_longest ct_PrefixMap_longest : Value}
    (a_PrefixMap_longest : PySem.W.findIn K (.ref f_PrefixMap) "longest" = some (some (.ref f_PrefixMap_longest))) (i_PrefixMap_longest : PySem.W.isFn K (.ref f_PrefixMap_longest) = true)
    (l_PrefixMap_longest : K.lookup f_PrefixMap_longest = some ⟨oc_PrefixMap_longest, od_PrefixMap_longest, .func (PySem.W.fnOf "longest" "PrefixMap.longest" (defArgs s_PrefixMap_longest) (defBody s_PrefixMap_longest) (defScope s_PrefixMap_longest) .none kV_PrefixMap_longest dc_PrefixMap_longest pm_PrefixMap_longest an_PrefixMap_longest cd_PrefixMap_longest ct_PrefixMap_longest), sl_PrefixMap_longest⟩) (c_PrefixMap_longest : PySem.W.codeIn K cd_PrefixMap_longest "PrefixMap.longest" = true) (k_PrefixMap_longest : PySem.W.keepIn K (.ref f_PrefixMap_longest) = true)
    {f_law : Addr} {od_law an_law : Option Addr} {sl_law : Array (Option Value)} {oc_law kV_law dc_law pm_law cd_law ct_law : Value}
    (a_law : PySem.W.nsIn K mainGlobals "law" = some (some (.ref f_law)))
    (l_law : K.lookup f_law = some ⟨oc_law, od_law, .func (PySem.W.fnOf "law" "law" (defArgs s_law) (defBody s_law) (defScope s_law) .none kV_law dc_law pm_law an_law cd_law ct_law), sl_law⟩) (c_law : PySem.W.codeIn K cd_law "law" = true) (k_law : PySem.W.keepIn K (.ref f_law) = true)
    (mk_PrefixMap : PySem.W.makesIn K f_PrefixMap = true)
    (na_PrefixMap_bits : PySem.W.findIn K (.ref f_PrefixMap) "bits" = some none)
    (na_PrefixMap_held : PySem.W.findIn K (.ref f_PrefixMap) "held" = some none)
    (kc_PrefixMap : PySem.W.keepIn K (.ref f_PrefixMap) = true)
    (z_all : PySem.W.nsIn K mainGlobals "all" = some none)
    (z_bool : PySem.W.nsIn K mainGlobals "bool" = some none)
    (z_dict : PySem.W.nsIn K mainGlobals "dict" = some none)
    (z_int : PySem.W.nsIn K mainGlobals "int" = some none)
    (z_isinstance : PySem.W.nsIn K mainGlobals "isinstance" = some none)
    (z_len : PySem.W.nsIn K mainGlobals "len" = some none)
    (z_list : PySem.W.nsIn K mainGlobals "list" = some none)
    (z_min : PySem.W.nsIn K mainGlobals "min" = some none)
    (z_range : PySem.W.nsIn K mainGlobals "range" = some none)
    (z_repr : PySem.W.nsIn K mainGlobals "repr" = some none)
    (z_sorted : PySem.W.nsIn K mainGlobals "sorted" = some none)
    (z_str : PySem.W.nsIn K mainGlobals "str" = some none)
    {t_MAX_WIDTH : Tok} (g_MAX_WIDTH : PySem.W.nsIn K mainGlobals "MAX_WIDTH" = some (some (.int 32 t_MAX_WIDTH))) :
    ∃ fd : FuncData, (∀ (s : Shared) (v : Value), BindsTo s fd ⟨[v], []⟩ [("script", v)]) ∧ ∀ base : Heap, K.In base → base.Ns mainGlobals mg → FnG l.prog w K mg base 6 fa fd ["script"] (spLaw K) := by
  have e := hfa.symm.trans (PySem.W.mg_of X G a_law)
  cases e
  have A_PrefixMap : cA K "PrefixMap" = f_PrefixMap := cA_of a_PrefixMap
  have M_PrefixMap_is_value : cM K "PrefixMap" "is_value" = f_PrefixMap_is_value := cM_of A_PrefixMap a_PrefixMap_is_value
  have M_PrefixMap_kept_value : cM K "PrefixMap" "kept_value" = f_PrefixMap_kept_value := cM_of A_PrefixMap a_PrefixMap_kept_value
  have M_PrefixMap___init__ : cM K "PrefixMap" "__init__" = f_PrefixMap___init__ := cM_of A_PrefixMap a_PrefixMap___init__
  have M_PrefixMap_longest : cM K "PrefixMap" "longest" = f_PrefixMap_longest := cM_of A_PrefixMap a_PrefixMap_longest
  have T : Txt K mg := ⟨PySem.W.mg_none_of X G z_all,
    PySem.W.mg_none_of X G z_bool,
    PySem.W.mg_none_of X G z_dict,
    PySem.W.mg_none_of X G z_int,
    PySem.W.mg_none_of X G z_isinstance,
    PySem.W.mg_none_of X G z_len,
    PySem.W.mg_none_of X G z_list,
    PySem.W.mg_none_of X G z_min,
    PySem.W.mg_none_of X G z_range,
    PySem.W.mg_none_of X G z_repr,
    PySem.W.mg_none_of X G z_sorted,
    PySem.W.mg_none_of X G z_str,
    ⟨_, PySem.W.mg_of X G g_MAX_WIDTH, ⟨_, rfl⟩⟩,
    (by rw [A_PrefixMap]; exact ⟨pg_PrefixMap, hd_PrefixMap, po_PrefixMap, sa_PrefixMap⟩),
    (by rw [A_PrefixMap]; exact PySem.W.mg_of X G a_PrefixMap),
    (by rw [A_PrefixMap, M_PrefixMap_is_value]; exact ⟨a_PrefixMap_is_value, i_PrefixMap_is_value, k_PrefixMap_is_value⟩),
    (by rw [A_PrefixMap, M_PrefixMap_kept_value]; exact ⟨a_PrefixMap_kept_value, i_PrefixMap_kept_value, k_PrefixMap_kept_value⟩),
    (by rw [A_PrefixMap, M_PrefixMap_longest]; exact ⟨a_PrefixMap_longest, i_PrefixMap_longest, k_PrefixMap_longest⟩),
    (by rw [A_PrefixMap, M_PrefixMap___init__]; exact ⟨mk_PrefixMap, a_PrefixMap___init__, i_PrefixMap___init__, kc_PrefixMap⟩),
    (by rw [A_PrefixMap]; exact na_PrefixMap_bits),
    (by rw [A_PrefixMap]; exact na_PrefixMap_held)⟩
  have h__law_pen : HF K mg "_law_pen" s__law_pen := ⟨_, _, fun_mk (st := s__law_pen) l__law_pen c__law_pen k__law_pen, PySem.W.mg_of X G a__law_pen⟩
  have h__law_next : HF K mg "_law_next" s__law_next := ⟨_, _, fun_mk (st := s__law_next) l__law_next c__law_next k__law_next, PySem.W.mg_of X G a__law_next⟩
  have h__law_draw : HF K mg "_law_draw" s__law_draw := ⟨_, _, fun_mk (st := s__law_draw) l__law_draw c__law_draw k__law_draw, PySem.W.mg_of X G a__law_draw⟩
  have h__law_bits : HF K mg "_law_bits" s__law_bits := ⟨_, _, fun_mk (st := s__law_bits) l__law_bits c__law_bits k__law_bits, PySem.W.mg_of X G a__law_bits⟩
  have h__law_size : HF K mg "_law_size" s__law_size := ⟨_, _, fun_mk (st := s__law_size) l__law_size c__law_size k__law_size, PySem.W.mg_of X G a__law_size⟩
  have h__law_prefixes : HF K mg "_law_prefixes" s__law_prefixes := ⟨_, _, fun_mk (st := s__law_prefixes) l__law_prefixes c__law_prefixes k__law_prefixes, PySem.W.mg_of X G a__law_prefixes⟩
  have h__law_numbers : HF K mg "_law_numbers" s__law_numbers := ⟨_, _, fun_mk (st := s__law_numbers) l__law_numbers c__law_numbers k__law_numbers, PySem.W.mg_of X G a__law_numbers⟩
  have h__law_match : HF K mg "_law_match" s__law_match := ⟨_, _, fun_mk (st := s__law_match) l__law_match c__law_match k__law_match, PySem.W.mg_of X G a__law_match⟩
  have h_is_integer : HF K mg "is_integer" s_is_integer := ⟨_, _, fun_mk (st := s_is_integer) l_is_integer c_is_integer k_is_integer, PySem.W.mg_of X G a_is_integer⟩
  have h_is_prefix : HF K mg "is_prefix" s_is_prefix := ⟨_, _, fun_mk (st := s_is_prefix) l_is_prefix c_is_prefix k_is_prefix, PySem.W.mg_of X G a_is_prefix⟩
  have h_PrefixMap_is_value : HM K "is_value" "PrefixMap.is_value" s_PrefixMap_is_value (cM K "PrefixMap" "is_value") := by rw [M_PrefixMap_is_value]; exact ⟨_, fun_mk (st := s_PrefixMap_is_value) l_PrefixMap_is_value c_PrefixMap_is_value k_PrefixMap_is_value⟩
  have h_PrefixMap_kept_value : HM K "kept_value" "PrefixMap.kept_value" s_PrefixMap_kept_value (cM K "PrefixMap" "kept_value") := by rw [M_PrefixMap_kept_value]; exact ⟨_, fun_mk (st := s_PrefixMap_kept_value) l_PrefixMap_kept_value c_PrefixMap_kept_value k_PrefixMap_kept_value⟩
  have h_PrefixMap___init__ : HM K "__init__" "PrefixMap.__init__" s_PrefixMap___init__ (cM K "PrefixMap" "__init__") := by rw [M_PrefixMap___init__]; exact ⟨_, fun_mk (st := s_PrefixMap___init__) l_PrefixMap___init__ c_PrefixMap___init__ k_PrefixMap___init__⟩
  have h_PrefixMap_longest : HM K "longest" "PrefixMap.longest" s_PrefixMap_longest (cM K "PrefixMap" "longest") := by rw [M_PrefixMap_longest]; exact ⟨_, fun_mk (st := s_PrefixMap_longest) l_PrefixMap_longest c_PrefixMap_longest k_PrefixMap_longest⟩
  have F_law := fun_mk (st := s_law) l_law c_law k_law
  refine ⟨_, fun s v => .of_eq rfl, fun base _ _ => law_end (def_ok F_law sc_law fun W => ?_) fun ns hl => law_spec hl⟩
  have n__law_pen := fn__law_pen (P := l.prog) (wd := w) (base := base) T h__law_pen 
  have n__law_next := fn__law_next (P := l.prog) (wd := w) (base := base) T h__law_next 
  have n__law_draw := fn__law_draw (P := l.prog) (wd := w) (base := base) T h__law_draw n__law_next
  have n__law_bits := fn__law_bits (P := l.prog) (wd := w) (base := base) T h__law_bits n__law_draw
  have n__law_size := fn__law_size (P := l.prog) (wd := w) (base := base) T h__law_size n__law_draw
  have n__law_prefixes := fn__law_prefixes (P := l.prog) (wd := w) (base := base) T h__law_prefixes n__law_draw n__law_bits
  have n__law_numbers := fn__law_numbers (P := l.prog) (wd := w) (base := base) T h__law_numbers n__law_prefixes n__law_draw
  have n__law_match := fn__law_match (P := l.prog) (wd := w) (base := base) T h__law_match 
  have n_is_integer := fn_is_integer (P := l.prog) (wd := w) (base := base) T h_is_integer 
  have n_is_prefix := fn_is_prefix (P := l.prog) (wd := w) (base := base) T h_is_prefix 
  have n_PrefixMap_is_value := fn_PrefixMap_is_value (P := l.prog) (wd := w) (base := base) T h_PrefixMap_is_value 
  have n_PrefixMap_kept_value := fn_PrefixMap_kept_value (P := l.prog) (wd := w) (base := base) T h_PrefixMap_kept_value 
  have n_PrefixMap___init__ := fn_PrefixMap___init__ (P := l.prog) (wd := w) (base := base) T h_PrefixMap___init__ n_is_integer n_is_prefix n_PrefixMap_is_value n_PrefixMap_kept_value
  have n_PrefixMap_longest := fn_PrefixMap_longest (P := l.prog) (wd := w) (base := base) T h_PrefixMap_longest n_is_prefix
  exact bd_law T n__law_pen n__law_size n__law_numbers n__law_bits n__law_match n_PrefixMap___init__ n_PrefixMap_longest W
end DL
open PySem PySem.W PyProof.Rows
set_option maxRecDepth 100000 in
set_option maxHeartbeats 0 in
theorem PySem.Challenge.cw_keptroutes_k05_longest_prefixes_holds : PySem.Challenge.rw_keptroutes_k05_longest_prefixes.Holds := by
  w_on; o_law; k_head; (case hw => w_witness2)
  k_fill
  refine DL.walk (l := PySem.Challenge.rw_keptroutes_k05_longest_prefixes) (k := 6) (x := "script") rfl rfl (by decide +kernel) ⟨rfl, by decide, by decide⟩ (fun w h Y => PySem.W.kIn_of Y) ?F
  case F =>
    intro w mg fa h KX G hmg
    refine' DL.all_mk KX G hmg ?a_PrefixMap ?pg_PrefixMap ?hd_PrefixMap ?po_PrefixMap ?sa_PrefixMap ?a__law_pen ?l__law_pen ?c__law_pen ?k__law_pen ?a__law_next ?l__law_next ?c__law_next ?k__law_next ?a__law_draw ?l__law_draw ?c__law_draw ?k__law_draw ?a__law_bits ?l__law_bits ?c__law_bits ?k__law_bits ?a__law_size ?l__law_size ?c__law_size ?k__law_size ?a__law_prefixes ?l__law_prefixes ?c__law_prefixes ?k__law_prefixes ?a__law_numbers ?l__law_numbers ?c__law_numbers ?k__law_numbers ?a__law_match ?l__law_match ?c__law_match ?k__law_match ?a_is_integer ?l_is_integer ?c_is_integer ?k_is_integer ?a_is_prefix ?l_is_prefix ?c_is_prefix ?k_is_prefix ?a_PrefixMap_is_value ?i_PrefixMap_is_value ?l_PrefixMap_is_value ?c_PrefixMap_is_value ?k_PrefixMap_is_value ?a_PrefixMap_kept_value ?i_PrefixMap_kept_value ?l_PrefixMap_kept_value ?c_PrefixMap_kept_value ?k_PrefixMap_kept_value ?a_PrefixMap___init__ ?i_PrefixMap___init__ ?l_PrefixMap___init__ ?c_PrefixMap___init__ ?k_PrefixMap___init__ ?a_PrefixMap_longest ?i_PrefixMap_longest ?l_PrefixMap_longest ?c_PrefixMap_longest ?k_PrefixMap_longest ?a_law ?l_law ?c_law ?k_law ?mk_PrefixMap ?na_PrefixMap_bits ?na_PrefixMap_held ?kc_PrefixMap ?z_all ?z_bool ?z_dict ?z_int ?z_isinstance ?z_len ?z_list ?z_min ?z_range ?z_repr ?z_sorted ?z_str ?g_MAX_WIDTH
    (case a_PrefixMap => k_is); (case pg_PrefixMap => k_is); (case hd_PrefixMap => k_is); (case po_PrefixMap => k_is)
    (case sa_PrefixMap => k_is); (case a__law_pen => k_is); (case l__law_pen => k_is); (case c__law_pen => k_is)
    (case k__law_pen => k_is); (case a__law_next => k_is); (case l__law_next => k_is); (case c__law_next => k_is)
    (case k__law_next => k_is); (case a__law_draw => k_is); (case l__law_draw => k_is); (case c__law_draw => k_is)
    (case k__law_draw => k_is); (case a__law_bits => k_is); (case l__law_bits => k_is); (case c__law_bits => k_is)
    (case k__law_bits => k_is); (case a__law_size => k_is); (case l__law_size => k_is); (case c__law_size => k_is)
    (case k__law_size => k_is); (case a__law_prefixes => k_is); (case l__law_prefixes => k_is); (case c__law_prefixes => k_is)
    (case k__law_prefixes => k_is); (case a__law_numbers => k_is); (case l__law_numbers => k_is); (case c__law_numbers => k_is)
    (case k__law_numbers => k_is); (case a__law_match => k_is); (case l__law_match => k_is); (case c__law_match => k_is)
    (case k__law_match => k_is); (case a_is_integer => k_is); (case l_is_integer => k_is); (case c_is_integer => k_is)
    (case k_is_integer => k_is); (case a_is_prefix => k_is); (case l_is_prefix => k_is); (case c_is_prefix => k_is)
    (case k_is_prefix => k_is); (case a_PrefixMap_is_value => k_is); (case i_PrefixMap_is_value => k_is); (case l_PrefixMap_is_value => k_is)
    (case c_PrefixMap_is_value => k_is); (case k_PrefixMap_is_value => k_is); (case a_PrefixMap_kept_value => k_is); (case i_PrefixMap_kept_value => k_is)
    (case l_PrefixMap_kept_value => k_is); (case c_PrefixMap_kept_value => k_is); (case k_PrefixMap_kept_value => k_is); (case a_PrefixMap___init__ => k_is)
    (case i_PrefixMap___init__ => k_is); (case l_PrefixMap___init__ => k_is); (case c_PrefixMap___init__ => k_is); (case k_PrefixMap___init__ => k_is)
    (case a_PrefixMap_longest => k_is); (case i_PrefixMap_longest => k_is); (case l_PrefixMap_longest => k_is); (case c_PrefixMap_longest => k_is)
    (case k_PrefixMap_longest => k_is); (case a_law => k_is); (case l_law => k_is); (case c_law => k_is)
    (case k_law => k_is); (case mk_PrefixMap => k_is); (case na_PrefixMap_bits => k_is); (case na_PrefixMap_held => k_is)
    (case kc_PrefixMap => k_is); (case z_all => k_is); (case z_bool => k_is); (case z_dict => k_is)
    (case z_int => k_is); (case z_isinstance => k_is); (case z_len => k_is); (case z_list => k_is)
    (case z_min => k_is); (case z_range => k_is); (case z_repr => k_is); (case z_sorted => k_is)
    (case z_str => k_is); (case g_MAX_WIDTH => k_is)
#print axioms PySem.Challenge.cw_keptroutes_k05_longest_prefixes_holds
