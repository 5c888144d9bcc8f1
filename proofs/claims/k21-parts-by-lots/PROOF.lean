import PyProof.Rows.All
import Wide.All
import OpenK.AllK
import Wide.FinOn
import HandS.ForMost
import HandS.Exc
import HandS.ExcOwn
import HandS.WordsExc
import HandS.TryOnly
import HandS.CallSlots
import HandS.Star
import HandS.IsInst
import HandS.Property
import HandS.ClsMeth
import HandS.FStr
import HandS.Zip
import HandS.Wide
import HandS.TupAny
import HandS.TupMul
import HandS.Deep
import HandS.Flow
import KE.GoesMore
import KE.GoesEnum
import KE.GoesZip
import HandS.Iter
import HandS.Style
import HandS.Small
import HandS.Codes
import KE.DataMinMax
import KE.DataAny
import KE.SortData
import PyProof.ReprReads
import HandS.RaiseMore
import HandS.More
import HandS.WordsDict
import HandS.ExcValue
import HandS.Replace
import PyProof.Rows.InDataRows
import PyProof.StrLaws
import HandS.Ends
import HandS.Words
import PySem.Challenge.RW_braidwords_k21_whole_parts_by_lots
set_option Elab.async false
set_option linter.all false
set_option maxRecDepth 100000
set_option maxHeartbeats 2000000
/-! Dn1: deep values, cells, worlds. -/
namespace Dn
open PySem PySem.Spec PyProof.Rows L2
abbrev Cs := List Nat
def toS (x : Cs) : Str := ⟨x.toArray⟩
def ofS (s : String) : Cs := s.toList.map Char.toNat
abbrev nm (s : String) : Str := Str.ofString s
theorem toS_ofS (s : String) : toS (ofS s) = Str.ofString s := (Str.ofString_eq_toList s).symm
theorem toS_inj {x y : Cs} (h : toS x = toS y) : x = y := by
  unfold toS at h
  injection h with h
  simpa using congrArg Array.toList h
theorem toNat_inj {a b : Char} (h : a.toNat = b.toNat) : a = b := by
  apply Char.ext
  exact UInt32.toNat_inj.mp h
theorem map_toNat_inj : ∀ {a b : List Char}, a.map Char.toNat = b.map Char.toNat → a = b
  | [], [], _ => rfl
  | [], _ :: _, h => by cases h
  | _ :: _, [], h => by cases h
  | x :: a, y :: b, h => by
    simp only [List.map_cons, List.cons.injEq] at h
    rw [toNat_inj h.1, map_toNat_inj h.2]
theorem nm_inj {a b : String} (h : nm a = nm b) : a = b := by
  have h1 : toS (ofS a) = toS (ofS b) := by rw [toS_ofS, toS_ofS]; exact h
  have h2 := map_toNat_inj (toS_inj h1)
  have h3 : String.ofList a.toList = String.ofList b.toList := by rw [h2]
  simpa using h3
theorem toS_toList (x : Cs) : (toS x).cps.toList = x := by simp [toS]
theorem toS_len (x : Cs) : (toS x).length = x.length := by simp [toS, Str.length]
inductive DKey where
  | i (n : Int) | s (x : Cs)
  deriving DecidableEq
def DKey.k : DKey → Key
  | .i n => .inl n
  | .s x => .inr (toS x)
/-- a value, told to its depth: frozen things; ref: a cell -/
inductive D where
  | non | bl (b : Bool) | int (i : Int) | str (x : Cs) | ty (n : String)
  | tup (xs : List D) | lst (xs : List D)
  | scr (ns : List Int)
  | dct (ks : List DKey) (vs : List D)
  | ins (c : String) (ns : List String) (vs : List D)
  | ref (r : Nat)
  | glo (x : String)
  | ktp (xs : List D)
  | dctT (ks : List (List DKey)) (vs : List D)
/-- what stands in a cell -/
inductive Cell where
  | lst (xs : List D)
  | dct (ks : List DKey) (vs : List D)
  | ins (c : String) (ns : List String) (vs : List D)
  | dctT (ks : List (List DKey)) (vs : List D)
  | dead
abbrev Mu := List Cell
abbrev Dl := List (Option D)
/-- where the cells lie, which of them live, which addresses are owned -/
structure Wd where
  al : List Addr
  lv : Addr → Prop
  O : Addr → Prop
  H : Hp
def keyT (k : List DKey) : List Key := k.map DKey.k
def TupF (W : Wd) (a : Addr) (vs : List V) : Prop := W.H a = some (.tup vs) ∧ ¬ W.O a
def RdF (W : Wd) (a : Addr) (u : HO) : Prop := Rd W.H a u ∧ ¬ W.O a
def KTup (K : PySem.W.Frag) (a : Addr) (xs : List V) : Prop :=
  ∃ (o : Obj) (its : Array Value) (n : Nat), K.lookup a = some o ∧ o.cls = .type "tuple" ∧ o.data = .seq its n ∧ its.size ≤ sizeLine ∧ Vals xs its.toList
def KLst (K : PySem.W.Frag) (a : Addr) (xs : List V) : Prop :=
  ∃ (o : Obj) (its : Array Value) (n : Nat), K.lookup a = some o ∧ o.cls = .type "list" ∧ o.dict = none ∧ o.data = .seq its n ∧ its.size ≤ sizeLine ∧ Vals xs its.toList
section
variable (K : PySem.W.Frag) (mg : Str → Option Value) (W : Wd)
mutual
def DR : D → V → Prop
  | .non, v => v = .non
  | .bl b, v => v = .bl b
  | .int i, v => v = .int i
  | .str x, v => v = .str (toS x)
  | .ty n, v => v = .ty n
  | .tup ds, v => ∃ a vs, v = .ref a ∧ TupF W a vs ∧ DRs ds vs
  | .lst ds, v => ∃ a vs, v = .ref a ∧ W.H a = some (.lst vs) ∧ ¬ W.O a ∧ DRs ds vs
  | .scr ns, v => ∃ a, v = .ref a ∧ (RdF W a (.lst (ns.map V.int)) ∨ KLst K a (ns.map V.int))
  | .dct ks ds, v => ∃ a kvs, v = .ref a ∧ RdF W a (.dK kvs) ∧ kvs.map (·.1) = ks.map DKey.k ∧ DRs ds (kvs.map (·.2))
  | .ins c ns ds, v => ∃ a C dx fs, v = .ref a ∧ W.H a = some (.ins C dx fs) ∧ ¬ W.O a ∧ mg (nm c) = some (.ref C) ∧ fs.map (·.1) = ns.map nm ∧ DRs ds (fs.map (·.2))
  | .ref r, v => ∃ a, v = .ref a ∧ W.al[r]? = some a
  | .glo x, v => ∃ a, v = .ref a ∧ mg (nm x) = some (.ref a)
  | .ktp ds, v => ∃ a vs, v = .ref a ∧ KTup K a vs ∧ DRs ds vs
  | .dctT ks ds, v => ∃ a kvs o, v = .ref a ∧ W.H a = some (.frz o (.dT kvs)) ∧ ¬ W.O a ∧ kvs.map (·.1) = ks.map keyT ∧ DRs ds (kvs.map (·.2))
def DRs : List D → List V → Prop
  | [], vs => vs = []
  | d :: ds, vs => ∃ v r, vs = v :: r ∧ DR d v ∧ DRs ds r
end
/-- an object as a cell says -/
def CR : Cell → HO → Prop
  | .lst ds, o => ∃ vs, o = .lst vs ∧ DRs K mg W ds vs
  | .dct ks ds, o => ∃ kvs, o = .dK kvs ∧ kvs.map (·.1) = ks.map DKey.k ∧ DRs K mg W ds (kvs.map (·.2))
  | .ins c ns ds, o => ∃ C dx fs, o = .ins C dx fs ∧ mg (nm c) = some (.ref C) ∧ fs.map (·.1) = ns.map nm ∧ DRs K mg W ds (fs.map (·.2))
  | .dctT ks ds, o => ∃ kvs, o = .dT kvs ∧ kvs.map (·.1) = ks.map keyT ∧ DRs K mg W ds (kvs.map (·.2))
  | .dead, _ => True
structure Sim (μ : Mu) : Prop where
  len : W.al.length = μ.length
  nd : W.al.Nodup
  trk : ∀ a ∈ W.al, W.H a ≠ none
  own : ∀ a, W.lv a → W.O a
  lv : ∀ (r : Nat) (a : Addr), W.al[r]? = some a → (W.lv a ↔ ∃ c, μ[r]? = some c ∧ c ≠ Cell.dead)
  lva : ∀ a, W.lv a → a ∈ W.al
  cell : ∀ (r : Nat) (a : Addr) (c : Cell), W.al[r]? = some a → μ[r]? = some c → c ≠ Cell.dead → ∃ o, W.H a = some o ∧ CR K mg W c o
  ot : ∀ a, W.O a → ∀ vs, W.H a ≠ some (.tup vs)
def En (σ : L2.St) (δ : Dl) : Prop := σ.length = δ.length ∧ ∀ (i : Nat) (d : D), δ[i]? = some (some d) → ∃ v, σ[i]? = some (some v) ∧ DR K mg W d v
end
/-- frozen facts are kept -/
structure Keep (W W' : Wd) : Prop where
  al : ∃ more, W'.al = W.al ++ more
  st : ∀ a o, W.H a = some o → ¬ W.O a → W'.H a = some o ∧ ¬ W'.O a
/-- what a step of code does -/
structure Ext (W W' : Wd) : Prop where
  al : ∃ more, W'.al = W.al ++ more
  st : ∀ a o, W.H a = some o → ¬ W.lv a → W'.H a = some o ∧ ¬ W'.lv a
  no : ∀ a, W.H a ≠ none → ¬ W.O a → ¬ W'.O a
  ye : ∀ a, W.H a ≠ none → W.O a → ¬ W.lv a → W'.O a
  tr : ∀ a, W.H a ≠ none → W'.H a ≠ none
section
variable {K : PySem.W.Frag} {mg : Str → Option Value} {W W' W1 W2 : Wd}
theorem Keep.refl : Keep W W := ⟨⟨[], by simp⟩, fun a o h n => ⟨h, n⟩⟩
theorem Keep.trans (a : Keep W W1) (b : Keep W1 W2) : Keep W W2 := by
  obtain ⟨m, e⟩ := a.al
  obtain ⟨m', e'⟩ := b.al
  exact ⟨⟨m ++ m', by rw [e', e, List.append_assoc]⟩, fun x o h n => let ⟨h1, n1⟩ := a.st x o h n; b.st x o h1 n1⟩
theorem Keep.rdf (k : Keep W W') {a : Addr} {u : HO} (h : RdF W a u) : RdF W' a u := by
  obtain ⟨h, n⟩ := h
  rcases h with h | ⟨o, h⟩
  · exact ⟨.inl (k.st a _ h n).1, (k.st a _ h n).2⟩
  · exact ⟨.inr ⟨o, (k.st a _ h n).1⟩, (k.st a _ h n).2⟩
theorem Keep.get (k : Keep W W') {r : Nat} {a : Addr} (h : W.al[r]? = some a) : W'.al[r]? = some a := by
  obtain ⟨m, e⟩ := k.al
  rw [e, List.getElem?_append_left (List.getElem?_eq_some_iff.mp h).1]
  exact h
mutual
theorem DR.mono (k : Keep W W') : ∀ (d : D) (v : V), DR K mg W d v → DR K mg W' d v
  | .non, v, h => by simp only [DR] at h ⊢; exact h
  | .bl _, v, h => by simp only [DR] at h ⊢; exact h
  | .int _, v, h => by simp only [DR] at h ⊢; exact h
  | .str _, v, h => by simp only [DR] at h ⊢; exact h
  | .ty _, v, h => by simp only [DR] at h ⊢; exact h
  | .tup ds, v, h => by
    simp only [DR] at h ⊢
    obtain ⟨a, vs, e, h, r⟩ := h
    exact ⟨a, vs, e, k.st a _ h.1 h.2, DRs.mono k ds vs r⟩
  | .ktp ds, v, h => by
    simp only [DR] at h ⊢
    obtain ⟨a, vs, e, h, r⟩ := h
    exact ⟨a, vs, e, h, DRs.mono k ds vs r⟩
  | .dctT ks ds, v, h => by
    simp only [DR] at h ⊢
    obtain ⟨a, kvs, o, e, h, no, hk, r⟩ := h
    exact ⟨a, kvs, o, e, (k.st a _ h no).1, (k.st a _ h no).2, hk, DRs.mono k ds _ r⟩
  | .lst ds, v, h => by
    simp only [DR] at h ⊢
    obtain ⟨a, vs, e, h, no, r⟩ := h
    exact ⟨a, vs, e, (k.st a _ h no).1, (k.st a _ h no).2, DRs.mono k ds vs r⟩
  | .scr ns, v, h => by
    simp only [DR] at h ⊢
    obtain ⟨a, e, h⟩ := h
    exact ⟨a, e, h.imp k.rdf id⟩
  | .dct ks ds, v, h => by
    simp only [DR] at h ⊢
    obtain ⟨a, kvs, e, h, hk, r⟩ := h
    exact ⟨a, kvs, e, k.rdf h, hk, DRs.mono k ds _ r⟩
  | .ins c ns ds, v, h => by
    simp only [DR] at h ⊢
    obtain ⟨a, C, dx, fs, e, h, no, hm, hf, r⟩ := h
    exact ⟨a, C, dx, fs, e, (k.st a _ h no).1, (k.st a _ h no).2, hm, hf, DRs.mono k ds _ r⟩
  | .ref r, v, h => by
    simp only [DR] at h ⊢
    obtain ⟨a, e, h⟩ := h
    exact ⟨a, e, k.get h⟩
  | .glo x, v, h => by simp only [DR] at h ⊢; exact h
theorem DRs.mono (k : Keep W W') : ∀ (ds : List D) (vs : List V), DRs K mg W ds vs → DRs K mg W' ds vs
  | [], vs, h => by simp only [DRs] at h ⊢; exact h
  | d :: ds, vs, h => by
    simp only [DRs] at h ⊢
    obtain ⟨v, r, e, h1, h2⟩ := h
    exact ⟨v, r, e, DR.mono k d v h1, DRs.mono k ds r h2⟩
end
theorem CR.mono (k : Keep W W') {c : Cell} {o : HO} (h : CR K mg W c o) : CR K mg W' c o := by
  cases c with
  | lst ds => obtain ⟨vs, e, r⟩ := h; exact ⟨vs, e, r.mono k⟩
  | dct ks ds => obtain ⟨kvs, e, hk, r⟩ := h; exact ⟨kvs, e, hk, r.mono k⟩
  | ins c ns ds => obtain ⟨C, dx, fs, e, hm, hf, r⟩ := h; exact ⟨C, dx, fs, e, hm, hf, r.mono k⟩
  | dctT ks ds => obtain ⟨kvs, e, hk, r⟩ := h; exact ⟨kvs, e, hk, r.mono k⟩
  | dead => trivial
theorem CR.notup {c : Cell} {o : HO} (h : CR K mg W c o) (hc : c ≠ .dead) (vs : List V) : o ≠ .tup vs := by
  cases c with
  | lst ds => obtain ⟨_, rfl, _⟩ := h; exact fun z => nomatch z
  | dct ks ds => obtain ⟨_, rfl, _⟩ := h; exact fun z => nomatch z
  | ins c ns ds => obtain ⟨_, _, _, rfl, _⟩ := h; exact fun z => nomatch z
  | dctT ks ds => obtain ⟨_, rfl, _⟩ := h; exact fun z => nomatch z
  | dead => exact absurd rfl hc
theorem En.mono (k : Keep W W') {σ : L2.St} {δ : Dl} (h : En K mg W σ δ) : En K mg W' σ δ :=
  ⟨h.1, fun i d e => let ⟨v, e1, r⟩ := h.2 i d e; ⟨v, e1, r.mono k⟩⟩
theorem Ext.refl : Ext W W := ⟨⟨[], by simp⟩, fun a o h n => ⟨h, n⟩, fun _ _ n => n, fun _ _ h _ => h, fun _ h => h⟩
theorem Ext.trans (a : Ext W W1) (b : Ext W1 W2) : Ext W W2 := by
  obtain ⟨m, e⟩ := a.al
  obtain ⟨m', e'⟩ := b.al
  refine ⟨⟨m ++ m', by rw [e', e, List.append_assoc]⟩, fun x o h n => let ⟨h1, n1⟩ := a.st x o h n; b.st x o h1 n1, fun x h n => b.no x (a.tr x h) (a.no x h n), fun x hx h n => ?_, fun x h => b.tr x (a.tr x h)⟩
  obtain ⟨o, ho⟩ := Option.ne_none_iff_exists'.mp hx
  exact b.ye x (a.tr x hx) (a.ye x hx h n) (a.st x o ho n).2
theorem Ext.keep (a : Ext W W') {μ : Mu} (S : Sim K mg W μ) : Keep W W' := ⟨a.al, fun x o h n => ⟨(a.st x o h fun z => n (S.own x z)).1, a.no x (by rw [h]; exact fun z => nomatch z) n⟩⟩
end
/-! ### results -/
inductive Rs (β : Type) where
  | ok (b : β) (m : Mu) | exc (c : String) (ns : List String) (vs : List D) (m : Mu) | bad
def Rs.bind {α β : Type} (r : Rs α) (k : α → Mu → Rs β) : Rs β :=
  match r with
  | .ok b m => k b m
  | .exc c ns vs m => .exc c ns vs m
  | .bad => .bad
inductive Ro where
  | next (δ : Dl) (m : Mu) | ret (d : D) (m : Mu) | brk (δ : Dl) (m : Mu) | cnt (δ : Dl) (m : Mu) | exc (c : String) (ns : List String) (vs : List D) (δ : Dl) (m : Mu) | bad
@[simp] theorem Rs.bind_ok {α β : Type} (b : α) (m : Mu) (k : α → Mu → Rs β) : (Rs.ok b m).bind k = k b m := rfl
@[simp] theorem Rs.bind_exc {α β : Type} (c : String) (ns : List String) (vs : List D) (m : Mu) (k : α → Mu → Rs β) : (Rs.exc c ns vs m : Rs α).bind k = .exc c ns vs m := rfl
@[simp] theorem Rs.bind_bad {α β : Type} (k : α → Mu → Rs β) : (Rs.bad : Rs α).bind k = .bad := rfl
/-- how an exception lies: its class and its own dict -/
def ER (K : PySem.W.Frag) (mg : Str → Option Value) (W : Wd) (c : String) (ns : List String) (ds : List D) (cls : Value) (d : Option Addr) : Prop :=
  ∃ C, cls = .ref C ∧ mg (nm c) = some (.ref C) ∧ ((ns = [] ∧ ds = [] ∧ d = none) ∨ ∃ dd fs, d = some dd ∧ W.H dd = some (.xd fs) ∧ ¬ W.O dd ∧ fs.map (·.1) = ns.map nm ∧ DRs K mg W ds (fs.map (·.2)))
section
variable (K : PySem.W.Frag) (mg : Str → Option Value)
/-- what a result asks of what is wanted: R relates the values -/
def Post {α β : Type} (R : Wd → β → α → Prop) (Wx : Value → Option Addr → Hp → Prop) (W : Wd) (Q : α → Hp → Prop) : Rs β → Prop
  | .ok b m => ∀ v W', Ext W W' → Sim K mg W' m → R W' b v → Q v W'.H
  | .exc c ns ds m => ∀ cls d W', Ext W W' → Sim K mg W' m → ER K mg W' c ns ds cls d → Wx cls d W'.H
  | .bad => False
def T2G {α β : Type} (R : Wd → β → α → Prop) (Wx : WX) (t : Dl → Mu → Rs β) (σ : L2.St) (H : Hp) (Q : α → Hp → Prop) : Prop :=
  ∃ W δ m, W.H = H ∧ Sim K mg W m ∧ En K mg W σ δ ∧ Post K mg R (fun c d H' => Wx c d σ H') W Q (t δ m)
end
section
variable {K : PySem.W.Frag} {mg : Str → Option Value} {W W' W1 : Wd}
theorem Post.ext {α β : Type} {R : Wd → β → α → Prop} {Wx : Value → Option Addr → Hp → Prop} {Q : α → Hp → Prop} {r : Rs β} (h : Post K mg R Wx W Q r) (x : Ext W W1) : Post K mg R Wx W1 Q r := by
  cases r with
  | ok b m => exact fun v W' e => h v W' (x.trans e)
  | exc c ns ds m => exact fun cls d W' e => h cls d W' (x.trans e)
  | bad => exact h
theorem Post.mono {α β : Type} {R : Wd → β → α → Prop} {Wx : Value → Option Addr → Hp → Prop} {Q Q' : α → Hp → Prop} {r : Rs β} (h : Post K mg R Wx W Q r) (q : ∀ v H, Q v H → Q' v H) : Post K mg R Wx W Q' r := by
  cases r with
  | ok b m => exact fun v W' e S r => q _ _ (h v W' e S r)
  | exc c ns ds m => exact h
  | bad => exact h
theorem Post.bind {α β α' β' : Type} {R : Wd → β → α → Prop} {R' : Wd → β' → α' → Prop} {Wx : Value → Option Addr → Hp → Prop} {Q : α' → Hp → Prop} {r : Rs β} {k : β → Mu → Rs β'} (h : Post K mg R' Wx W Q (r.bind k)) :
    Post K mg R Wx W (fun v H => ∃ W1 m b, W1.H = H ∧ Ext W W1 ∧ Sim K mg W1 m ∧ R W1 b v ∧ Post K mg R' Wx W1 Q (k b m)) r := by
  cases r with
  | ok b m => exact fun v W' e S r => ⟨W', m, b, rfl, e, S, r, Post.ext h e⟩
  | exc c ns ds m => exact h
  | bad => exact h
/-- a value without an effect -/
theorem Post.val {α β : Type} {R : Wd → β → α → Prop} {Wx : Value → Option Addr → Hp → Prop} {Q : α → Hp → Prop} {b : β} {v : α} {m : Mu} (h : Post K mg R Wx W Q (.ok b m)) (S : Sim K mg W m) (r : R W b v) : Q v W.H := h v W Ext.refl S r
end
abbrev E2 (X : Cx) (Wx : WX) (e : Expr) (t : Dl → Mu → Rs D) : Prop := PE X e (T2G X.K X.mg (fun W => DR X.K X.mg W) Wx t)
abbrev A2 (X : Cx) (Wx : WX) (es : List Expr) (t : Dl → Mu → Rs (List D)) : Prop := PA X es (T2G X.K X.mg (fun W => DRs X.K X.mg W) Wx t)
abbrev C2 (X : Cx) (Wx : WX) (e : Expr) (t : Dl → Mu → Rs Bool) : Prop := PT X e (T2G X.K X.mg (fun _ b v => v = b) Wx t)
theorem PE.wk {X : Cx} {e : Expr} {t t' : TE} (h : PE X e t) (w : ∀ σ H Q, t' σ H Q → t σ H Q) : PE X e t' := ⟨fun pins s σ H Q I q => h.run pins s σ H Q I (w σ H Q q)⟩
theorem PT.wk {X : Cx} {e : Expr} {t t' : TT} (h : PT X e t) (w : ∀ σ H Q, t' σ H Q → t σ H Q) : PT X e t' := ⟨fun pins s σ H Q I q => h.run pins s σ H Q I (w σ H Q q)⟩
theorem PW.wk {X : Cx} {e : Expr} {t t' : TT} (h : PW X e t) (w : ∀ σ H Q, t' σ H Q → t σ H Q) : PW X e t' := ⟨fun wh pins s σ H Q I q => h.run wh pins s σ H Q I (w σ H Q q)⟩
theorem PA.wk {X : Cx} {es : List Expr} {t t' : TA} (h : PA X es t) (w : ∀ σ H Q, t' σ H Q → t σ H Q) : PA X es t' := ⟨fun pos pins s σ H Q I q => h.run pos pins s σ H Q I (w σ H Q q)⟩
theorem PS.wk {X : Cx} {st : Stmt} {t t' : TS} (h : PS X st t) (w : ∀ D σ H, t' D σ H → t D σ H) : PS X st t' := ⟨fun pins s σ H D I q => h.run pins s σ H D I (w D σ H q)⟩
theorem PSs.wk {X : Cx} {st : List Stmt} {t t' : TS} (h : PSs X st t) (w : ∀ D σ H, t' D σ H → t D σ H) : PSs X st t' := ⟨fun pins s σ H D I q => h.run pins s σ H D I (w D σ H q)⟩
theorem PG.wk {X : Cx} {tg : Expr} {t t' : TG} (h : PG X tg t) (w : ∀ v σ H Q, t' v σ H Q → t v σ H Q) : PG X tg t' := ⟨fun pins s σ H v u Q I r q => h.run pins s σ H v u Q I r (w v σ H Q q)⟩
theorem PI.wk {X : Cx} {tg it : Expr} {t t' : TI} (h : PI X tg it t) (w : ∀ σ H R, t' σ H R → t σ H R) : PI X tg it t' := ⟨fun pins s σ H R I q => h.run pins s σ H R I (w σ H R q)⟩
end Dn
set_option Elab.async false
set_option linter.all false
set_option maxRecDepth 100000
set_option maxHeartbeats 2000000
namespace Dn
open PySem PySem.Spec PyProof.Rows L2
/-! ### new worlds -/
def Wd.new (W : Wd) (p : Addr) (o : HO) : Wd := { W with O := fun a => a ≠ p ∧ W.O a, H := upd W.H p o }
def Wd.alloc (W : Wd) (p : Addr) (o : HO) : Wd := { al := W.al ++ [p], lv := fun a => a = p ∨ W.lv a, O := fun a => a = p ∨ W.O a, H := upd W.H p o }
def Wd.put (W : Wd) (a : Addr) (o : HO) : Wd := { W with H := upd W.H a o }
section
variable {K : PySem.W.Frag} {mg : Str → Option Value} {W W' : Wd} {p : Addr} {o : HO} {m : Mu}
theorem ne_trk {a : Addr} {u : HO} (h : W.H p = none) (e : W.H a = some u) : a ≠ p := fun z => by rw [z, h] at e; cases e
theorem Keep.new (h : W.H p = none) : Keep W (W.new p o) := ⟨⟨[], by simp [Wd.new]⟩, fun a u e n => ⟨by show upd W.H p o a = _; rw [upd_ne (ne_trk h e)]; exact e, fun z => n z.2⟩⟩
theorem Ext.new {m : Mu} (S : Sim K mg W m) (h : W.H p = none) : Ext W (W.new p o) := by
  refine ⟨⟨[], by simp [Wd.new]⟩, fun a u e n => ⟨by show upd W.H p o a = _; rw [upd_ne (ne_trk h e)]; exact e, n⟩, fun a _ n z => n z.2, fun a e h1 _ => ⟨fun z => e (z ▸ h), h1⟩, fun a e => ?_⟩
  show upd W.H p o a ≠ none
  unfold upd
  split
  · exact fun z => nomatch z
  · exact e
theorem Sim.new (S : Sim K mg W m) (h : W.H p = none) : Sim K mg (W.new p o) m := by
  have k : Keep W (W.new p o) := Keep.new h
  refine ⟨S.len, S.nd, fun a ha => (Ext.new (o := o) S h).tr a (S.trk a ha), fun a ha => ⟨fun z => S.trk a (S.lva a ha) (z ▸ h), S.own a ha⟩, S.lv, S.lva, fun r a c e1 e2 e3 => ?_, fun a ha vs => by show upd W.H p o a ≠ _; rw [upd_ne ha.1]; exact S.ot a ha.2 vs⟩
  · obtain ⟨u, eu, hu⟩ := S.cell r a c e1 e2 e3
    exact ⟨u, by show upd W.H p o a = _; rw [upd_ne (ne_trk h eu)]; exact eu, hu.mono k⟩
theorem new_at : (W.new p o).H p = some o ∧ ¬ (W.new p o).O p := ⟨upd_same, fun z => z.1 rfl⟩
/-- a new frozen list, tuple -/
theorem new_lst {Wx : Value → Option Addr → Hp → Prop} {Q : VK} {ds : List D} {vs : List V} (S : Sim K mg W m) (r : DRs K mg W ds vs) (h : Post K mg (fun W => DR K mg W) Wx W Q (.ok (.lst ds) m)) : ∀ p, W.H p = none → Q (.ref p) (upd W.H p (.lst vs)) := fun p hp =>
  h (.ref p) (W.new p (.lst vs)) (Ext.new S hp) (S.new hp) (by simp only [DR]; exact ⟨p, vs, rfl, new_at.1, new_at.2, r.mono (Keep.new hp)⟩)
theorem new_tup {Wx : Value → Option Addr → Hp → Prop} {Q : VK} {ds : List D} {vs : List V} (S : Sim K mg W m) (r : DRs K mg W ds vs) (h : Post K mg (fun W => DR K mg W) Wx W Q (.ok (.tup ds) m)) : ∀ p, W.H p = none → Q (.ref p) (upd W.H p (.tup vs)) := fun p hp =>
  h (.ref p) (W.new p (.tup vs)) (Ext.new S hp) (S.new hp) (by simp only [DR]; exact ⟨p, vs, rfl, ⟨new_at.1, new_at.2⟩, r.mono (Keep.new hp)⟩)
theorem Keep.alloc (h : W.H p = none) : Keep W (W.alloc p o) := ⟨⟨[p], rfl⟩, fun a u e n => ⟨by show upd W.H p o a = _; rw [upd_ne (ne_trk h e)]; exact e, fun z => z.elim (ne_trk h e) n⟩⟩
theorem Ext.alloc (h : W.H p = none) : Ext W (W.alloc p o) := by
  refine ⟨⟨[p], rfl⟩, fun a u e n => ⟨by show upd W.H p o a = _; rw [upd_ne (ne_trk h e)]; exact e, fun z => z.elim (ne_trk h e) n⟩, fun a e n z => z.elim (fun y => e (y ▸ h)) n, fun a _ h1 _ => .inr h1, fun a e => ?_⟩
  show upd W.H p o a ≠ none
  unfold upd
  split
  · exact fun z => nomatch z
  · exact e
theorem Sim.alloc {c : Cell} (S : Sim K mg W m) (h : W.H p = none) (hc : c ≠ .dead) (r : CR K mg W c o) : Sim K mg (W.alloc p o) (m ++ [c]) := by
  have k : Keep W (W.alloc p o) := Keep.alloc h
  have hp : p ∉ W.al := fun z => S.trk p z h
  refine ⟨by simp [Wd.alloc, S.len], ?_, fun a ha => ?_, fun a ha => ha.imp id (S.own a), fun r a e => ?_, fun a ha => ?_, fun r' a c' e1 e2 e3 => ?_, fun a ha vs => ?_⟩
  · show (W.al ++ [p]).Nodup
    rw [List.nodup_append]
    exact ⟨S.nd, by simp, fun a ha b hb => by simp only [List.mem_singleton] at hb; subst hb; exact fun z => hp (z ▸ ha)⟩
  · rcases List.mem_append.mp ha with ha | ha
    · exact (Ext.alloc (o := o) h).tr a (S.trk a ha)
    · simp only [List.mem_singleton] at ha
      subst ha
      show upd W.H a o a ≠ none
      rw [upd_same]
      exact fun z => nomatch z
  · show (a = p ∨ W.lv a) ↔ _
    have e' : (W.al ++ [p])[r]? = some a := e
    by_cases hr : r < W.al.length
    · rw [List.getElem?_append_left hr] at e'
      rw [List.getElem?_append_left (by rw [← S.len]; exact hr)]
      have na : a ≠ p := fun z => hp (z ▸ List.mem_of_getElem? e')
      exact ⟨fun z => (S.lv r a e').mp (z.resolve_left na), fun z => .inr ((S.lv r a e').mpr z)⟩
    · have hr' : r = W.al.length := by
        have := (List.getElem?_eq_some_iff.mp e').1
        simp only [List.length_append, List.length_singleton] at this
        omega
      subst hr'
      rw [List.getElem?_append_right (Nat.le_refl _)] at e'
      simp only [Nat.sub_self, List.getElem?_cons_zero, Option.some.injEq] at e'
      rw [S.len, List.getElem?_append_right (Nat.le_refl _)]
      simp only [Nat.sub_self, List.getElem?_cons_zero, Option.some.injEq, exists_eq_left']
      exact ⟨fun _ => hc, fun _ => .inl e'.symm⟩
  · show a ∈ W.al ++ [p]
    rcases ha with ha | ha
    · subst ha; simp
    · exact List.mem_append_left _ (S.lva a ha)
  · have e' : (W.al ++ [p])[r']? = some a := e1
    by_cases hr : r' < W.al.length
    · rw [List.getElem?_append_left hr] at e'
      rw [List.getElem?_append_left (by rw [← S.len]; exact hr)] at e2
      obtain ⟨u, eu, hu⟩ := S.cell r' a c' e' e2 e3
      exact ⟨u, by show upd W.H p o a = _; rw [upd_ne (ne_trk h eu)]; exact eu, hu.mono k⟩
    · have hr' : r' = W.al.length := by
        have := (List.getElem?_eq_some_iff.mp e').1
        simp only [List.length_append, List.length_singleton] at this
        omega
      subst hr'
      rw [List.getElem?_append_right (Nat.le_refl _)] at e'
      simp only [Nat.sub_self, List.getElem?_cons_zero, Option.some.injEq] at e'
      rw [S.len, List.getElem?_append_right (Nat.le_refl _)] at e2
      simp only [Nat.sub_self, List.getElem?_cons_zero, Option.some.injEq] at e2
      subst e' e2
      exact ⟨o, upd_same, r.mono k⟩
  · show upd W.H p o a ≠ _
    by_cases hx : a = p
    · subst hx
      rw [upd_same]
      exact fun z => r.notup hc vs (Option.some.inj z)
    · rw [upd_ne hx]
      exact S.ot a (ha.resolve_left hx) vs
theorem new_cell {Wx : Value → Option Addr → Hp → Prop} {Q : VK} {c : Cell} (S : Sim K mg W m) (hc : c ≠ .dead) (r : CR K mg W c o) (h : Post K mg (fun W => DR K mg W) Wx W Q (.ok (.ref m.length) (m ++ [c]))) : ∀ p, W.H p = none → Q (.ref p) (upd W.H p o) := fun p hp =>
  h (.ref p) (W.alloc p o) (Ext.alloc hp) (S.alloc hp hc r) (by
    simp only [DR]
    exact ⟨p, rfl, by show (W.al ++ [p])[m.length]? = _; rw [← S.len]; simp⟩)
/-- a cell is written -/
theorem Keep.put {a : Addr} (h : W.O a) : Keep W (W.put a o) := ⟨⟨[], by simp [Wd.put]⟩, fun b u e n => ⟨(upd_ne (show b ≠ a from fun z => n (by rw [z]; exact h))).trans e, n⟩⟩
theorem Ext.put {a : Addr} (h : W.lv a) : Ext W (W.put a o) := by
  refine ⟨⟨[], by simp [Wd.put]⟩, fun b u e n => ⟨(upd_ne (show b ≠ a from fun z => n (by rw [z]; exact h))).trans e, n⟩, fun _ _ n => n, fun _ _ h _ => h, fun b e => ?_⟩
  show upd W.H a o b ≠ none
  unfold upd
  split
  · exact fun z => nomatch z
  · exact e
theorem nd_get {l : List Addr} (h : l.Nodup) {r r' : Nat} {a : Addr} (e : l[r]? = some a) (e' : l[r']? = some a) : r = r' := by
  obtain ⟨h1, e1⟩ := List.getElem?_eq_some_iff.mp e
  obtain ⟨h2, e2⟩ := List.getElem?_eq_some_iff.mp e'
  exact (List.getElem_inj h).mp (e1.trans e2.symm)
theorem Sim.put {a : Addr} {r : Nat} {c c0 : Cell} (S : Sim K mg W m) (hr : W.al[r]? = some a) (h0 : m[r]? = some c0) (hd0 : c0 ≠ .dead) (hc : c ≠ .dead) (k : CR K mg W c o) : Sim K mg (W.put a o) (m.set r c) := by
  have hl : W.lv a := (S.lv r a hr).mpr ⟨c0, h0, hd0⟩
  have kp : Keep W (W.put a o) := Keep.put (S.own a hl)
  have hm : r < m.length := (List.getElem?_eq_some_iff.mp h0).1
  refine ⟨by rw [List.length_set]; exact S.len, S.nd, fun b hb => (Ext.put (o := o) hl).tr b (S.trk b hb), S.own, fun r' b e => ?_, S.lva, fun r' b c' e1 e2 e3 => ?_, fun b hb vs => ?_⟩
  · show W.lv b ↔ _
    rw [S.lv r' b e]
    by_cases hx : r = r'
    · subst hx
      rw [List.getElem?_set_self hm]
      exact ⟨fun _ => ⟨c, rfl, hc⟩, fun _ => ⟨c0, h0, hd0⟩⟩
    · rw [List.getElem?_set_ne hx]
  · by_cases hx : r = r'
    · subst hx
      rw [List.getElem?_set_self hm] at e2
      cases e2
      have : a = b := by
        have e1' : W.al[r]? = some b := e1
        rw [hr] at e1'
        exact Option.some.inj e1'
      subst this
      exact ⟨o, upd_same, k.mono kp⟩
    · rw [List.getElem?_set_ne hx] at e2
      obtain ⟨u, eu, hu⟩ := S.cell r' b c' e1 e2 e3
      refine ⟨u, ?_, hu.mono kp⟩
      show upd W.H a o b = _
      have hb : b ≠ a := fun z => hx (nd_get S.nd hr (by rw [← z]; exact e1))
      rw [upd_ne hb]
      exact eu
  · show upd W.H a o b ≠ _
    by_cases hx : b = a
    · subst hx
      rw [upd_same]
      exact fun z => k.notup hc vs (Option.some.inj z)
    · rw [upd_ne hx]
      exact S.ot b hb vs
end
/-! ### lists of values -/
section
variable {K : PySem.W.Frag} {mg : Str → Option Value} {W W' : Wd}
theorem DRs.len : ∀ {ds : List D} {vs : List V}, DRs K mg W ds vs → vs.length = ds.length
  | [], vs, h => by simp only [DRs] at h; subst h; rfl
  | d :: ds, vs, h => by
    simp only [DRs] at h
    obtain ⟨v, r, rfl, _, h2⟩ := h
    simp [DRs.len h2]
theorem DRs.get : ∀ {ds : List D} {vs : List V} {i : Nat} {d : D}, DRs K mg W ds vs → ds[i]? = some d → ∃ v, vs[i]? = some v ∧ DR K mg W d v
  | [], vs, i, d, h, e => by simp at e
  | d :: ds, vs, 0, d', h, e => by
    simp only [DRs] at h
    obtain ⟨v, r, rfl, h1, _⟩ := h
    simp only [List.getElem?_cons_zero, Option.some.injEq] at e
    subst e
    exact ⟨v, rfl, h1⟩
  | d :: ds, vs, i + 1, d', h, e => by
    simp only [DRs] at h
    obtain ⟨v, r, rfl, _, h2⟩ := h
    obtain ⟨u, eu, hu⟩ := DRs.get (i := i) h2 (by simpa using e)
    exact ⟨u, by simpa using eu, hu⟩
theorem DRs.append : ∀ {ds es : List D} {vs us : List V}, DRs K mg W ds vs → DRs K mg W es us → DRs K mg W (ds ++ es) (vs ++ us)
  | [], es, vs, us, h, h' => by simp only [DRs] at h; subst h; exact h'
  | d :: ds, es, vs, us, h, h' => by
    simp only [DRs] at h
    obtain ⟨v, r, rfl, h1, h2⟩ := h
    simp only [List.cons_append, DRs]
    exact ⟨v, _, rfl, h1, DRs.append h2 h'⟩
theorem DRs.nil : DRs K mg W [] [] := by simp only [DRs]
theorem DRs.one {d : D} {v : V} (h : DR K mg W d v) : DRs K mg W [d] [v] := by simp only [DRs]; exact ⟨v, [], rfl, h, rfl⟩
theorem DRs.cons {d : D} {ds : List D} {v : V} {vs : List V} (h : DR K mg W d v) (h' : DRs K mg W ds vs) : DRs K mg W (d :: ds) (v :: vs) := by simp only [DRs]; exact ⟨v, vs, rfl, h, h'⟩
theorem DRs.take : ∀ {ds : List D} {vs : List V} (n : Nat), DRs K mg W ds vs → DRs K mg W (ds.take n) (vs.take n)
  | ds, vs, 0, _ => by simp only [List.take_zero]; exact DRs.nil
  | [], vs, n + 1, h => by simp only [DRs] at h; subst h; simp only [List.take_nil]; exact DRs.nil
  | d :: ds, vs, n + 1, h => by
    simp only [DRs] at h
    obtain ⟨v, r, rfl, h1, h2⟩ := h
    exact DRs.cons h1 (h2.take n)
theorem DRs.drop : ∀ {ds : List D} {vs : List V} (n : Nat), DRs K mg W ds vs → DRs K mg W (ds.drop n) (vs.drop n)
  | ds, vs, 0, h => by simpa using h
  | [], vs, n + 1, h => by simp only [DRs] at h; subst h; simp only [List.drop_nil]; exact DRs.nil
  | d :: ds, vs, n + 1, h => by
    simp only [DRs] at h
    obtain ⟨v, r, rfl, h1, h2⟩ := h
    simpa using h2.drop n
theorem DRs.set : ∀ {ds : List D} {vs : List V} {d : D} {v : V} (n : Nat), DRs K mg W ds vs → DR K mg W d v → DRs K mg W (ds.set n d) (vs.set n v)
  | [], vs, d, v, n, h, _ => by simp only [DRs] at h; subst h; simp only [List.set_nil]; exact DRs.nil
  | e :: ds, vs, d, v, 0, h, r => by
    simp only [DRs] at h
    obtain ⟨u, l, rfl, h1, h2⟩ := h
    exact DRs.cons r h2
  | e :: ds, vs, d, v, n + 1, h, r => by
    simp only [DRs] at h
    obtain ⟨u, l, rfl, h1, h2⟩ := h
    exact DRs.cons h1 (h2.set n r)
theorem DRs.reverse : ∀ {ds : List D} {vs : List V}, DRs K mg W ds vs → DRs K mg W ds.reverse vs.reverse
  | [], vs, h => by simp only [DRs] at h; subst h; exact DRs.nil
  | d :: ds, vs, h => by
    simp only [DRs] at h
    obtain ⟨v, r, rfl, h1, h2⟩ := h
    simp only [List.reverse_cons]
    exact h2.reverse.append (.one h1)
theorem DRs.ints : ∀ (ns : List Int), DRs K mg W (ns.map D.int) (ns.map V.int)
  | [] => DRs.nil
  | n :: ns => DRs.cons (by simp only [DR]) (DRs.ints ns)
theorem DRs.of_ints : ∀ {ns : List Int} {vs : List V}, DRs K mg W (ns.map D.int) vs → vs = ns.map V.int
  | [], vs, h => by simp only [List.map_nil, DRs] at h; exact h
  | n :: ns, vs, h => by
    simp only [List.map_cons, DRs] at h
    obtain ⟨v, r, rfl, h1, h2⟩ := h
    simp only [DR] at h1
    rw [h1, DRs.of_ints h2]; rfl
theorem DRs.strs : ∀ (ns : List Cs), DRs K mg W (ns.map D.str) (ns.map fun x => V.str (toS x))
  | [] => DRs.nil
  | n :: ns => DRs.cons (by simp only [DR]) (DRs.strs ns)
theorem DRs.of_strs : ∀ {ns : List Cs} {vs : List V}, DRs K mg W (ns.map D.str) vs → vs = (ns.map toS).map V.str
  | [], vs, h => by simp only [List.map_nil, DRs] at h; exact h
  | n :: ns, vs, h => by
    simp only [List.map_cons, DRs] at h
    obtain ⟨v, r, rfl, h1, h2⟩ := h
    simp only [DR] at h1
    rw [h1, DRs.of_strs h2]; rfl
theorem DRs.bls : ∀ (ns : List Bool), DRs K mg W (ns.map D.bl) (ns.map V.bl)
  | [] => DRs.nil
  | n :: ns => DRs.cons (by simp only [DR]) (DRs.bls ns)
theorem DRs.of_bls : ∀ {ns : List Bool} {vs : List V}, DRs K mg W (ns.map D.bl) vs → vs = ns.map V.bl
  | [], vs, h => by simp only [List.map_nil, DRs] at h; exact h
  | n :: ns, vs, h => by
    simp only [List.map_cons, DRs] at h
    obtain ⟨v, r, rfl, h1, h2⟩ := h
    simp only [DR] at h1
    rw [h1, DRs.of_bls h2]; rfl
theorem sqT_of {a : Addr} {vs : List V} (h : TupF W a vs) : SqT K W.H a vs := .inl (.inl h.1)
theorem sqL_scr {a : Addr} {vs : List V} (h : RdF W a (.lst vs) ∨ KLst K a vs) : SqL K W.H a vs := h.imp (fun x => x.1) id
theorem En.get {σ : L2.St} {δ : Dl} {i : Nat} {d : D} (h : En K mg W σ δ) (e : δ[i]? = some (some d)) : ∃ v, σ[i]? = some (some v) ∧ DR K mg W d v := h.2 i d e
theorem En.set {σ : L2.St} {δ : Dl} {i : Nat} {d : D} {v : V} (h : En K mg W σ δ) (r : DR K mg W d v) : En K mg W (σ.set i (some v)) (δ.set i (some d)) := by
  refine ⟨by simpa using h.1, fun j e hj => ?_⟩
  by_cases hx : i = j
  · subst hx
    by_cases hi : i < δ.length
    · rw [List.getElem?_set_self hi] at hj
      cases hj
      exact ⟨v, List.getElem?_set_self (by rw [h.1]; exact hi), r⟩
    · rw [List.getElem?_eq_none (by simpa using hi)] at hj
      cases hj
  · rw [List.getElem?_set_ne hx] at hj ⊢
    exact h.2 j e hj
end
end Dn
set_option Elab.async false
set_option linter.all false
set_option maxRecDepth 100000
set_option maxHeartbeats 2000000
namespace Dn
open PySem PySem.Spec PyProof.Rows L2
/-! ### what is read: a cell's content, or the frozen thing -/
def look (m : Mu) : D → D
  | .ref r => match m[r]? with
    | some (.lst ds) => .lst ds
    | some (.dct ks ds) => .dct ks ds
    | some (.ins c ns ds) => .ins c ns ds
    | some (.dctT ks ds) => .dctT ks ds
    | _ => .ref r
  | d => d
section
variable (K : PySem.W.Frag) (mg : Str → Option Value) (W : Wd)
def RD : D → V → Prop
  | .lst ds, v => ∃ a vs, v = .ref a ∧ W.H a = some (.lst vs) ∧ DRs K mg W ds vs
  | .dct ks ds, v => ∃ a kvs, v = .ref a ∧ Rd W.H a (.dK kvs) ∧ kvs.map (·.1) = ks.map DKey.k ∧ DRs K mg W ds (kvs.map (·.2))
  | .ins c ns ds, v => ∃ a C dx fs, v = .ref a ∧ W.H a = some (.ins C dx fs) ∧ mg (nm c) = some (.ref C) ∧ fs.map (·.1) = ns.map nm ∧ DRs K mg W ds (fs.map (·.2))
  | .dctT ks ds, v => ∃ a kvs, v = .ref a ∧ Rd W.H a (.dT kvs) ∧ kvs.map (·.1) = ks.map keyT ∧ DRs K mg W ds (kvs.map (·.2))
  | d, v => DR K mg W d v
end
section
variable {K : PySem.W.Frag} {mg : Str → Option Value} {W W' W1 : Wd} {m : Mu} {x y d : D} {u v : V}
theorem DR.rd (h : DR K mg W d v) : RD K mg W d v := by
  cases d with
  | lst ds => simp only [DR] at h; obtain ⟨a, vs, e, h, _, r⟩ := h; exact ⟨a, vs, e, h, r⟩
  | dct ks ds => simp only [DR] at h; obtain ⟨a, kvs, e, h, hk, r⟩ := h; exact ⟨a, kvs, e, h.1, hk, r⟩
  | dctT ks ds => simp only [DR] at h; obtain ⟨a, kvs, o, e, h, _, hk, r⟩ := h; exact ⟨a, kvs, e, .inr ⟨o, h⟩, hk, r⟩
  | ins c ns ds => simp only [DR] at h; obtain ⟨a, C, dx, fs, e, h, _, hm, hf, r⟩ := h; exact ⟨a, C, dx, fs, e, h, hm, hf, r⟩
  | _ => exact h
theorem look_rd (S : Sim K mg W m) (h : DR K mg W d v) : RD K mg W (look m d) v := by
  cases d with
  | ref r =>
    have h0 := h
    simp only [DR] at h
    obtain ⟨a, rfl, e⟩ := h
    unfold look
    dsimp only
    split
    · rename_i ds hm
      obtain ⟨o, ho, vs, rfl, r⟩ := S.cell r a _ e hm (by intro z; cases z)
      exact ⟨a, vs, rfl, ho, r⟩
    · rename_i ks ds hm
      obtain ⟨o, ho, kvs, rfl, hk, r⟩ := S.cell r a _ e hm (by intro z; cases z)
      exact ⟨a, kvs, rfl, .inl ho, hk, r⟩
    · rename_i c ns ds hm
      obtain ⟨o, ho, C, dx, fs, rfl, hc, hf, r⟩ := S.cell r a _ e hm (by intro z; cases z)
      exact ⟨a, C, dx, fs, rfl, ho, hc, hf, r⟩
    · rename_i ks ds hm
      obtain ⟨o, ho, kvs, rfl, hk, r⟩ := S.cell r a _ e hm (by intro z; cases z)
      exact ⟨a, kvs, rfl, .inl ho, hk, r⟩
    · exact h0
  | _ => exact h.rd
/-- in the end the world stays -/
theorem fin {Wx : Value → Option Addr → Hp → Prop} {Q : VK} (S : Sim K mg W m) (h : Post K mg (fun W => DR K mg W) Wx W Q (.ok d m)) (r : DR K mg W d v) : Q v W.H := h v W Ext.refl S r
end
/-! ### operators by values -/
def Op2 (K : PySem.W.Frag) (mg : Str → Option Value) (r : R2) (f : D → D → Mu → Rs D) : Prop :=
  ∀ (W : Wd) (m : Mu) (x y : D) (v u : V) (Q : VK) (Wx : Value → Option Addr → Hp → Prop), Sim K mg W m → DR K mg W x v → DR K mg W y u → Post K mg (fun W => DR K mg W) Wx W Q (f x y m) → r v u W.H Q
def op2 (f : D → D → Mu → Rs D) (ta tb : Dl → Mu → Rs D) : Dl → Mu → Rs D := fun δ m => (ta δ m).bind fun x m => (tb δ m).bind fun y m => f x y m
def un2 (f : D → Mu → Rs D) (ta : Dl → Mu → Rs D) : Dl → Mu → Rs D := fun δ m => (ta δ m).bind f
def var2 (i : Nat) : Dl → Mu → Rs D := fun δ m => match δ[i]? with | some (some d) => .ok d m | _ => .bad
def con2 (d : D) : Dl → Mu → Rs D := fun _ m => .ok d m
def nil2 : Dl → Mu → Rs (List D) := fun _ m => .ok [] m
def cons2 (ta : Dl → Mu → Rs D) (tr : Dl → Mu → Rs (List D)) : Dl → Mu → Rs (List D) := fun δ m => (ta δ m).bind fun x m => (tr δ m).bind fun xs m => .ok (x :: xs) m
def SZ : Nat := 16777216
theorem SZ_eq : sizeLine = SZ := sizeLine_eq
/-- a list's items, however it is held -/
def seqOf (m : Mu) (d : D) : Option (List D) := match look m d with
  | .lst ds => some ds
  | .tup ds => some ds
  | .scr ns => some (ns.map D.int)
  | _ => none
section
variable {X : Cx} {Wx : WX} {a b e : Expr} {es : List Expr} {ta tb : Dl → Mu → Rs D} {tr : Dl → Mu → Rs (List D)} {pos : Pos}
theorem e2_var (i : Nat) {x : Str} (hN : X.N[i]? = some x := by rfl) (hv : Vis X.env.scope x := by first | exact Or.inl rfl | exact Or.inr (Or.inl rfl) | exact Or.inr (Or.inr rfl)) (hd : (x == ("__debug__" : Str)) = false := by decide)
    (hcd : (x == ("__classdict__" : Str)) = false := by decide) : E2 X Wx (.Name x pos) (var2 i) :=
  PE.wk (pe_var hN hv hd hcd) fun σ H Q ⟨W, δ, m, e, S, N, h⟩ => by
    subst e
    unfold var2 at h
    split at h
    · rename_i d hd
      obtain ⟨v, hv, r⟩ := N.get hd
      exact ⟨v, hv, fin S h r⟩
    · exact h.elim
theorem e2_con {v : V} {d : D} (h0 : PE X e (tC v)) (r : ∀ W, DR X.K X.mg W d v) : E2 X Wx e (con2 d) :=
  PE.wk h0 fun σ H Q ⟨W, δ, m, e, S, N, h⟩ => by subst e; exact fin S h (r W)
theorem e2_int {i : Int} {j : Nat} : E2 X Wx (.Constant (.int i) j pos) (con2 (.int i)) := e2_con pe_int fun W => by simp only [DR]
theorem e2_bl {i : Bool} {j : Nat} : E2 X Wx (.Constant (.bool i) j pos) (con2 (.bl i)) := e2_con pe_bl fun W => by simp only [DR]
theorem e2_non {j : Nat} : E2 X Wx (.Constant .none j pos) (con2 .non) := e2_con pe_non fun W => by simp only [DR]
theorem e2_str (s : String) {x : Str} {j : Nat} (hx : x = Str.ofString s := by rfl) : E2 X Wx (.Constant (.str x) j pos) (con2 (.str (ofS s))) := e2_con pe_str fun W => by simp only [DR]; rw [toS_ofS, hx]
theorem e2_glo (s : String) {x : Str} {a : Addr} (hm : X.mg x = some (.ref a)) (hx : x = Str.ofString s := by rfl) (hg : Gl X x := by rfl) (hd : (x == ("__debug__" : Str)) = false := by decide) : E2 X Wx (.Name x pos) (con2 (.glo s)) :=
  e2_con (pe_glob (v := .ref a) hg hm rfl hd) fun W => by simp only [DR]; exact ⟨a, rfl, by rw [← hm, hx]⟩
theorem e2_gint {x : Str} {i : Int} {t : Tok} (hm : X.mg x = some (.int i t)) (hg : Gl X x := by rfl) (hd : (x == ("__debug__" : Str)) = false := by decide) : E2 X Wx (.Name x pos) (con2 (.int i)) :=
  e2_con (pe_glob (v := .int i) hg hm ⟨_, rfl⟩ hd) fun W => by simp only [DR]
theorem e2_gstr {x : Str} {y : Cs} {z : Str} {t : Tok} (hm : X.mg x = some (.str z t)) (hz : z = toS y) (hg : Gl X x := by rfl) (hd : (x == ("__debug__" : Str)) = false := by decide) : E2 X Wx (.Name x pos) (con2 (.str y)) :=
  e2_con (pe_glob (v := .str z) hg hm ⟨_, rfl⟩ hd) fun W => by simp only [DR]; rw [hz]
theorem e2_bty {x : Str} {n : String} (hm : X.mg x = none) (hv : bootBuiltins x = some (.type n)) (hg : Gl X x := by rfl) (hn : x ≠ "__name__" := by decide) (hd : (x == ("__debug__" : Str)) = false := by decide) : E2 X Wx (.Name x pos) (con2 (.ty n)) :=
  e2_con (pe_bltn (v := .ty n) hg hm hv rfl hn hd) fun W => by simp only [DR]
theorem t2_op {K : PySem.W.Frag} {mg : Str → Option Value} {r : R2} {f : D → D → Mu → Rs D} (hf : Op2 K mg r f) {σ : L2.St} {H : Hp} {Q : VK} (h : T2G K mg (fun W => DR K mg W) Wx (op2 f ta tb) σ H Q) :
    tOp r (T2G K mg (fun W => DR K mg W) Wx ta) (T2G K mg (fun W => DR K mg W) Wx tb) σ H Q := by
  obtain ⟨W, δ, m, e, S, N, h⟩ := h
  refine ⟨W, δ, m, e, S, N, (Post.bind h).mono fun v H1 ⟨W1, m1, x, e1, x1, S1, r1, h1⟩ => ⟨W1, δ, m1, e1, S1, N.mono (x1.keep S), (Post.bind h1).mono fun u H2 ⟨W2, m2, y, e2, x2, S2, r2, h2⟩ => ?_⟩⟩
  subst e2
  exact hf W2 m2 x y v u Q _ S2 (r1.mono (x2.keep S1)) r2 h2
theorem e2_op {op : Operator} {r : R2} {f : D → D → Mu → Rs D} (ho : OpR X (binaryOp op) r) (hf : Op2 X.K X.mg r f) (ha : E2 X Wx a ta) (hb : E2 X Wx b tb) : E2 X Wx (.BinOp a op b pos) (op2 f ta tb) :=
  PE.wk (pe_op ho ha hb) fun σ H Q h => t2_op hf h
theorem e2_cmp {op : CmpOp} {r : R2} {f : D → D → Mu → Rs D} (ho : OpR X (compareOp op) r) (hf : Op2 X.K X.mg r f) (ha : E2 X Wx a ta) (hb : E2 X Wx b tb) (hm : behindInMarks op b = false := by first | exact nomark _ | rfl) : E2 X Wx (.Compare a [op] [b] pos) (op2 f ta tb) :=
  PE.wk (pe_cmpR ho ha hb hm) fun σ H Q h => t2_op hf h
/-! arguments -/
theorem a2_nil : A2 X Wx [] nil2 := PA.wk pa_nil fun σ H Q ⟨W, δ, m, e, S, N, h⟩ => by
  subst e
  exact h [] W Ext.refl S DRs.nil
theorem a2_cons (ha : E2 X Wx e ta) (hr : A2 X Wx es tr) (hs : starEach (e :: es) X.env = (false, eval e X.env) :: starEach es X.env := by rfl) : A2 X Wx (e :: es) (cons2 ta tr) :=
  PA.wk (pa_cons ha hr hs) fun σ H Q ⟨W, δ, m, e, S, N, h⟩ => by
    refine ⟨W, δ, m, e, S, N, (Post.bind h).mono fun v H1 ⟨W1, m1, x, e1, x1, S1, r1, h1⟩ => ⟨W1, δ, m1, e1, S1, N.mono (x1.keep S), (Post.bind h1).mono fun u H2 ⟨W2, m2, y, e2, x2, S2, r2, h2⟩ => ?_⟩⟩
    subst e2
    exact h2 (v :: u) W2 Ext.refl S2 (DRs.cons (r1.mono (x2.keep S1)) r2)
/-- what is starred -/
def star2 (ta : Dl → Mu → Rs D) (tr : Dl → Mu → Rs (List D)) : Dl → Mu → Rs (List D) := fun δ m => (ta δ m).bind fun x m => match seqOf m x with
  | some ds => (tr δ m).bind fun xs m => .ok (ds ++ xs) m
  | none => .bad
theorem seq_of {K : PySem.W.Frag} {mg : Str → Option Value} {W : Wd} {m : Mu} {x : D} {v : V} {ds : List D} (S : Sim K mg W m) (r : DR K mg W x v) (h : seqOf m x = some ds) : ∃ a vs, v = .ref a ∧ (SqT K W.H a vs ∨ SqL K W.H a vs) ∧ DRs K mg W ds vs := by
  have q := look_rd S r
  unfold seqOf at h
  split at h
  · rename_i xs hx
    rw [hx] at q
    cases h
    obtain ⟨a, vs, e, h1, h2⟩ := q
    exact ⟨a, vs, e, .inr (SqL.of h1), h2⟩
  · rename_i xs hx
    rw [hx] at q
    cases h
    simp only [RD, DR] at q
    obtain ⟨a, vs, e, h1, h2⟩ := q
    exact ⟨a, vs, e, .inl (sqT_of h1), h2⟩
  · rename_i xs hx
    rw [hx] at q
    cases h
    simp only [RD, DR] at q
    obtain ⟨a, e, h1⟩ := q
    exact ⟨a, _, e, .inr (sqL_scr h1), DRs.ints _⟩
  · cases h
theorem a2_star {p : Pos} (ha : E2 X Wx e ta) (hr : A2 X Wx es tr) (hs : starEach (.Starred e p :: es) X.env = (true, eval e X.env) :: starEach es X.env := by rfl) : A2 X Wx (.Starred e p :: es) (star2 ta tr) :=
  PA.wk (StX.pa_star ha hr hs) fun σ H Q ⟨W, δ, m, e, S, N, h⟩ => by
    refine ⟨W, δ, m, e, S, N, (Post.bind h).mono fun v H1 ⟨W1, m1, x, e1, x1, S1, r1, h1⟩ => ?_⟩
    cases hq : seqOf m1 x with
    | none => rw [hq] at h1; exact h1.elim
    | some ds =>
      rw [hq] at h1
      obtain ⟨a, vs, ev, hs1, rs⟩ := seq_of S1 r1 hq
      subst e1
      refine ⟨a, vs, ev, hs1, W1, δ, m1, rfl, S1, N.mono (x1.keep S), (Post.bind h1).mono fun u H2 ⟨W2, m2, y, e2, x2, S2, r2, h2⟩ => ?_⟩
      subst e2
      exact h2 _ W2 Ext.refl S2 ((rs.mono (x2.keep S1)).append r2)
/-! displays -/
def tup2 (tr : Dl → Mu → Rs (List D)) : Dl → Mu → Rs D := fun δ m => (tr δ m).bind fun ds m => if ds.length ≤ SZ then .ok (.tup ds) m else .bad
def lst2 (tr : Dl → Mu → Rs (List D)) : Dl → Mu → Rs D := fun δ m => (tr δ m).bind fun ds m => if ds.length ≤ SZ then .ok (.lst ds) m else .bad
def lstM (tr : Dl → Mu → Rs (List D)) : Dl → Mu → Rs D := fun δ m => (tr δ m).bind fun ds m => if ds.length ≤ SZ then .ok (.ref m.length) (m ++ [.lst ds]) else .bad
theorem e2_tup {x1} (h : A2 X Wx es tr) : E2 X Wx (.Tuple es x1 pos) (tup2 tr) :=
  PE.wk (pe_tup h) fun σ H Q ⟨W, δ, m, e, S, N, h⟩ => ⟨W, δ, m, e, S, N, (Post.bind h).mono fun vs H1 ⟨W1, m1, ds, e1, x1, S1, r1, h1⟩ => by
    subst e1
    split at h1
    · rename_i hl
      exact ⟨by rw [r1.len, SZ_eq]; exact hl, new_tup S1 r1 h1⟩
    · exact h1.elim⟩
theorem e2_lst (h : A2 X Wx es tr) : E2 X Wx (.List es pos) (lst2 tr) :=
  PE.wk (pe_lst h) fun σ H Q ⟨W, δ, m, e, S, N, h⟩ => ⟨W, δ, m, e, S, N, (Post.bind h).mono fun vs H1 ⟨W1, m1, ds, e1, x1, S1, r1, h1⟩ => by
    subst e1
    split at h1
    · rename_i hl
      exact ⟨by rw [r1.len, SZ_eq]; exact hl, new_lst S1 r1 h1⟩
    · exact h1.elim⟩
theorem e2_lstM (h : A2 X Wx es tr) : E2 X Wx (.List es pos) (lstM tr) :=
  PE.wk (pe_lst h) fun σ H Q ⟨W, δ, m, e, S, N, h⟩ => ⟨W, δ, m, e, S, N, (Post.bind h).mono fun vs H1 ⟨W1, m1, ds, e1, x1, S1, r1, h1⟩ => by
    subst e1
    split at h1
    · rename_i hl
      exact ⟨by rw [r1.len, SZ_eq]; exact hl, new_cell (c := .lst ds) S1 (by intro z; cases z) ⟨vs, rfl, r1⟩ h1⟩
    · exact h1.elim⟩
/-! tests -/
def truOf (m : Mu) (d : D) : Option Bool := match look m d with
  | .non => some false
  | .bl b => some b
  | .int i => some (i != 0)
  | .str x => if x.length ≤ SZ then some (!x.isEmpty) else none
  | .lst ds => some (!ds.isEmpty)
  | .tup ds => some (!ds.isEmpty)
  | .scr ns => some (!ns.isEmpty)
  | .dct ks _ => some (!ks.isEmpty)
  | _ => none
theorem isEmpty_len {α β : Type} {xs : List α} {ys : List β} (h : xs.length = ys.length) : xs.isEmpty = ys.isEmpty := by
  cases xs <;> cases ys <;> simp_all
theorem tru_of {K : PySem.W.Frag} {mg : Str → Option Value} {W : Wd} {m : Mu} {x : D} {v : V} {k : Bool} (S : Sim K mg W m) (r : DR K mg W x v) (h : truOf m x = some k) (hd : ∀ ks ds, look m x ≠ .dct ks ds) : TruV K v W.H k := by
  have q := look_rd S r
  unfold truOf at h
  split at h <;> rename_i hx
  · rw [hx] at q; simp only [RD, DR] at q; subst q; exact (Option.some.inj h).symm
  · rw [hx] at q; simp only [RD, DR] at q; subst q; exact (Option.some.inj h).symm
  · rw [hx] at q; simp only [RD, DR] at q; subst q; exact (Option.some.inj h).symm
  · rw [hx] at q; simp only [RD, DR] at q; subst q
    split at h
    · rename_i hl
      refine ⟨by rw [toS_len, SZ_eq]; exact hl, ?_⟩
      rw [toS_len, ← Option.some.inj h]
      rename_i y
      cases y with
      | nil => rfl
      | cons a b => simp; omega
    · cases h
  · rw [hx] at q; obtain ⟨a, vs, rfl, h1, h2⟩ := q
    refine .inl ⟨vs, SqL.of h1, ?_⟩
    rw [← Option.some.inj h, isEmpty_len h2.len]
  · rw [hx] at q; simp only [RD, DR] at q; obtain ⟨a, vs, rfl, h1, h2⟩ := q
    refine .inr (.inl ⟨vs, sqT_of h1, ?_⟩)
    rw [← Option.some.inj h, isEmpty_len h2.len]
  · rw [hx] at q; simp only [RD, DR] at q; obtain ⟨a, rfl, h1⟩ := q
    refine .inl ⟨_, sqL_scr h1, ?_⟩
    rw [← Option.some.inj h]; simp
  · exact absurd hx (hd _ _)
  · cases h
def tstD (x : D) (m : Mu) : Rs Bool := match look m x with
  | .dct _ _ => .bad
  | _ => match truOf m x with
    | some k => .ok k m
    | none => .bad
def tst2 (ta : Dl → Mu → Rs D) : Dl → Mu → Rs Bool := fun δ m => (ta δ m).bind tstD
theorem tst_inv {m : Mu} {x : D} {R : Rs Bool → Prop} (h : R (tstD x m)) (hb : ¬ R .bad) : ∃ k, truOf m x = some k ∧ (∀ ks ds, look m x ≠ .dct ks ds) ∧ R (.ok k m) := by
  unfold tstD at h
  split at h
  · exact absurd h hb
  · rename_i hd
    split at h
    · rename_i k hk
      exact ⟨k, hk, hd, h⟩
    · exact absurd h hb
theorem tst_post {K : PySem.W.Frag} {mg : Str → Option Value} {W : Wd} {m : Mu} {x : D} {v : V} {Wy : Value → Option Addr → Hp → Prop} {Q : Bool → Hp → Prop} (S : Sim K mg W m) (r : DR K mg W x v)
    (h : Post K mg (fun _ b v => v = b) Wy W Q (tstD x m)) : ∃ k, TruV K v W.H k ∧ Q k W.H := by
  obtain ⟨k, hk, hd, h⟩ := tst_inv (R := fun z => Post K mg (fun _ b v => v = b) Wy W Q z) h (fun z => z.elim)
  exact ⟨k, tru_of S r hk hd, h k W Ext.refl S rfl⟩
theorem c2_val (ha : E2 X Wx e ta) (he : ∀ whole, isTrue e X.env whole = (do let v ← whole; standAt e.pos; holding [v] (truthy v)) := by intro _; rfl) : C2 X Wx e (tst2 ta) :=
  PT.wk (pt_truth ha he) fun σ H Q ⟨W, δ, m, e, S, N, h⟩ => ⟨W, δ, m, e, S, N, (Post.bind h).mono fun v H1 ⟨W1, m1, x, e1, x1, S1, r1, h1⟩ => by subst e1; exact tst_post S1 r1 h1⟩
def boolD (x : D) (m : Mu) : Rs Bool := match x with
  | .bl b => .ok b m
  | _ => .bad
def bool2 (t : Dl → Mu → Rs D) : Dl → Mu → Rs Bool := fun δ m => (t δ m).bind boolD
theorem bool_post {K : PySem.W.Frag} {mg : Str → Option Value} {W : Wd} {m : Mu} {x : D} {v : V} {Wy : Value → Option Addr → Hp → Prop} {Q : Bool → Hp → Prop} (S : Sim K mg W m) (r : DR K mg W x v)
    (h : Post K mg (fun _ b v => v = b) Wy W Q (boolD x m)) : ∃ k, v = .bl k ∧ Q k W.H := by
  unfold boolD at h
  split at h
  · rename_i b
    simp only [DR] at r
    exact ⟨b, r, h b W Ext.refl S rfl⟩
  · exact h.elim
theorem c2_cmp {op : CmpOp} {r : R2} {f : D → D → Mu → Rs D} (ho : OpR X (compareOp op) r) (hf : Op2 X.K X.mg r f) (ha : E2 X Wx a ta) (hb : E2 X Wx b tb) (hm : behindInMarks op b = false := by first | exact nomark _ | rfl) : C2 X Wx (.Compare a [op] [b] pos) (bool2 (op2 f ta tb)) :=
  PT.wk (pt_cmpR ho ha hb hm) fun σ H Q ⟨W, δ, m, e, S, N, h⟩ => by
    refine t2_op (Wx := Wx) hf ⟨W, δ, m, e, S, N, (Post.bind h).mono fun v H1 ⟨W1, m1, x, e1, x1, S1, r1, h1⟩ => ?_⟩
    subst e1
    exact bool_post S1 r1 h1
def notT (t : Dl → Mu → Rs Bool) : Dl → Mu → Rs Bool := fun δ m => (t δ m).bind fun b m => .ok (!b) m
def andT (t u : Dl → Mu → Rs Bool) : Dl → Mu → Rs Bool := fun δ m => (t δ m).bind fun b m => if b = true then u δ m else .ok false m
def orT (t u : Dl → Mu → Rs Bool) : Dl → Mu → Rs Bool := fun δ m => (t δ m).bind fun b m => if b = true then .ok true m else u δ m
abbrev B2 (X : Cx) (Wx : WX) (e : Expr) (t : Dl → Mu → Rs Bool) : Prop := PW X e (T2G X.K X.mg (fun _ b v => v = b) Wx t)
section
variable {tA tB : Dl → Mu → Rs Bool} {rest : List Expr}
theorem c2_not (h : C2 X Wx a tA) : C2 X Wx (.UnaryOp .Not a pos) (notT tA) :=
  PT.wk (pt_not h) fun σ H Q ⟨W, δ, m, e, S, N, h⟩ => ⟨W, δ, m, e, S, N, (Post.bind h).mono fun v H1 ⟨W1, m1, b, e1, x1, S1, r1, h1⟩ => by
    subst e1 r1
    exact h1 _ W1 Ext.refl S1 rfl⟩
theorem b2_and1 (h : C2 X Wx a tA) : B2 X Wx (.BoolOp .And [a] pos) tA := pw_and1 h
theorem b2_or1 (h : C2 X Wx a tA) : B2 X Wx (.BoolOp .Or [a] pos) tA := pw_or1 h
theorem b2_and (h : C2 X Wx a tA) (h' : B2 X Wx (.BoolOp .And (b :: rest) pos) tB) : B2 X Wx (.BoolOp .And (a :: b :: rest) pos) (andT tA tB) :=
  PW.wk (pw_and h h') fun σ H Q ⟨W, δ, m, e, S, N, h⟩ => ⟨W, δ, m, e, S, N, (Post.bind h).mono fun v H1 ⟨W1, m1, b, e1, x1, S1, r1, h1⟩ => by
    subst e1 r1
    cases v with
    | true => exact iteT ⟨W1, δ, m1, rfl, S1, N.mono (x1.keep S), h1⟩
    | false => exact iteF (h1 _ W1 Ext.refl S1 rfl)⟩
theorem b2_or (h : C2 X Wx a tA) (h' : B2 X Wx (.BoolOp .Or (b :: rest) pos) tB) : B2 X Wx (.BoolOp .Or (a :: b :: rest) pos) (orT tA tB) :=
  PW.wk (pw_or h h') fun σ H Q ⟨W, δ, m, e, S, N, h⟩ => ⟨W, δ, m, e, S, N, (Post.bind h).mono fun v H1 ⟨W1, m1, b, e1, x1, S1, r1, h1⟩ => by
    subst e1 r1
    cases v with
    | true => exact iteT (h1 _ W1 Ext.refl S1 rfl)
    | false => exact iteF ⟨W1, δ, m1, rfl, S1, N.mono (x1.keep S), h1⟩⟩
theorem c2_bool (h : B2 X Wx e tA) : C2 X Wx e tA := PW.pt h
/-! values by truth -/
def andV (ta tb : Dl → Mu → Rs D) : Dl → Mu → Rs D := fun δ m => (ta δ m).bind fun x m => (tstD x m).bind fun k m => if k = true then tb δ m else .ok x m
def orV (ta tb : Dl → Mu → Rs D) : Dl → Mu → Rs D := fun δ m => (ta δ m).bind fun x m => (tstD x m).bind fun k m => if k = true then .ok x m else tb δ m
def notV (ta : Dl → Mu → Rs D) : Dl → Mu → Rs D := fun δ m => (ta δ m).bind fun x m => (tstD x m).bind fun k m => .ok (.bl (!k)) m
theorem e2_one {op} (h : E2 X Wx a ta) : E2 X Wx (.BoolOp op [a] pos) ta := pe_one h
theorem e2_and (ha : E2 X Wx a ta) (hb : E2 X Wx (.BoolOp .And (b :: rest) pos) tb) : E2 X Wx (.BoolOp .And (a :: b :: rest) pos) (andV ta tb) :=
  PE.wk (pe_andT ha hb) fun σ H Q ⟨W, δ, m, e, S, N, h⟩ => ⟨W, δ, m, e, S, N, (Post.bind h).mono fun v H1 ⟨W1, m1, x, e1, x1, S1, r1, h1⟩ => by
    subst e1
    obtain ⟨k, hq, hd, h1⟩ := tst_inv (R := fun z => Post X.K X.mg (fun W => DR X.K X.mg W) (fun c d H' => Wx c d σ H') W1 Q (z.bind fun k m => if k = true then tb δ m else .ok x m)) h1 (fun z => z.elim)
    refine ⟨k, tru_of S1 r1 hq hd, ?_⟩
    cases k with
    | true => exact iteT ⟨W1, δ, m1, rfl, S1, N.mono (x1.keep S), h1⟩
    | false => exact iteF (fin S1 h1 r1)⟩
theorem e2_or (ha : E2 X Wx a ta) (hb : E2 X Wx (.BoolOp .Or (b :: rest) pos) tb) : E2 X Wx (.BoolOp .Or (a :: b :: rest) pos) (orV ta tb) :=
  PE.wk (pe_orT ha hb) fun σ H Q ⟨W, δ, m, e, S, N, h⟩ => ⟨W, δ, m, e, S, N, (Post.bind h).mono fun v H1 ⟨W1, m1, x, e1, x1, S1, r1, h1⟩ => by
    subst e1
    obtain ⟨k, hq, hd, h1⟩ := tst_inv (R := fun z => Post X.K X.mg (fun W => DR X.K X.mg W) (fun c d H' => Wx c d σ H') W1 Q (z.bind fun k m => if k = true then .ok x m else tb δ m)) h1 (fun z => z.elim)
    refine ⟨k, tru_of S1 r1 hq hd, ?_⟩
    cases k with
    | true => exact iteT (fin S1 h1 r1)
    | false => exact iteF ⟨W1, δ, m1, rfl, S1, N.mono (x1.keep S), h1⟩⟩
theorem e2_not (ha : E2 X Wx a ta) : E2 X Wx (.UnaryOp .Not a pos) (notV ta) :=
  PE.wk (pe_notT ha) fun σ H Q ⟨W, δ, m, e, S, N, h⟩ => ⟨W, δ, m, e, S, N, (Post.bind h).mono fun v H1 ⟨W1, m1, x, e1, x1, S1, r1, h1⟩ => by
    subst e1
    obtain ⟨k, hq, hd, h1⟩ := tst_inv (R := fun z => Post X.K X.mg (fun W => DR X.K X.mg W) (fun c d H' => Wx c d σ H') W1 Q (z.bind fun k m => .ok (.bl (!k)) m)) h1 (fun z => z.elim)
    exact ⟨k, tru_of S1 r1 hq hd, fin S1 h1 (by simp only [DR])⟩⟩
def ifV (tc : Dl → Mu → Rs Bool) (ta tb : Dl → Mu → Rs D) : Dl → Mu → Rs D := fun δ m => (tc δ m).bind fun b m => if b = true then ta δ m else tb δ m
theorem e2_if {c : Expr} (hc : C2 X Wx c tA) (ha : E2 X Wx a ta) (hb : E2 X Wx b tb) : E2 X Wx (.IfExp c a b pos) (ifV tA ta tb) :=
  PE.wk (pe_ifExp hc ha hb) fun σ H Q ⟨W, δ, m, e, S, N, h⟩ => ⟨W, δ, m, e, S, N, (Post.bind h).mono fun v H1 ⟨W1, m1, b, e1, x1, S1, r1, h1⟩ => by
    subst e1 r1
    cases v with
    | true => exact iteT ⟨W1, δ, m1, rfl, S1, N.mono (x1.keep S), h1⟩
    | false => exact iteF ⟨W1, δ, m1, rfl, S1, N.mono (x1.keep S), h1⟩⟩
end
/-! chains -/
def chain2 (f g : D → D → Mu → Rs D) (ta tb tc : Dl → Mu → Rs D) : Dl → Mu → Rs D := fun δ m => (ta δ m).bind fun x m => (tb δ m).bind fun y m => (f x y m).bind fun k m => (boolD k m).bind fun k m => if k = true then (tc δ m).bind fun z m => g y z m else .ok (.bl false) m
theorem bool_inv {m : Mu} {x : D} {R : Rs Bool → Prop} (h : R (boolD x m)) (hb : ¬ R .bad) : ∃ k, x = .bl k ∧ R (.ok k m) := by
  unfold boolD at h
  split at h
  · exact ⟨_, rfl, h⟩
  · exact absurd h hb
theorem t2_chain {K : PySem.W.Frag} {mg : Str → Option Value} {c : Expr} {tc : Dl → Mu → Rs D} {r r' : R2} {f g : D → D → Mu → Rs D} (hf : Op2 K mg r f) (hg : Op2 K mg r' g) {σ : L2.St} {H : Hp} {Q : VK} (h : T2G K mg (fun W => DR K mg W) Wx (chain2 f g ta tb tc) σ H Q) :
    tChain r r' (T2G K mg (fun W => DR K mg W) Wx ta) (T2G K mg (fun W => DR K mg W) Wx tb) (T2G K mg (fun W => DR K mg W) Wx tc) σ H Q := by
  obtain ⟨W, δ, m, e, S, N, h⟩ := h
  refine ⟨W, δ, m, e, S, N, (Post.bind h).mono fun v H1 ⟨W1, m1, x, e1, x1, S1, r1, h1⟩ => ⟨W1, δ, m1, e1, S1, N.mono (x1.keep S), (Post.bind h1).mono fun u H2 ⟨W2, m2, y, e2, x2, S2, r2, h2⟩ => ?_⟩⟩
  subst e2
  refine hf W2 m2 x y v u _ _ S2 (r1.mono (x2.keep S1)) r2 ((Post.bind h2).mono fun z H3 ⟨W3, m3, k, e3, x3, S3, r3, h3⟩ => ?_)
  obtain ⟨b, rfl, h3⟩ := bool_inv (R := fun z => Post K mg (fun W => DR K mg W) (fun c d H' => Wx c d σ H') W3 Q (z.bind fun k m => if k = true then (tc δ m).bind fun z m => g y z m else .ok (.bl false) m)) h3 (fun z => z.elim)
  simp only [DR] at r3
  refine ⟨b, r3, ?_⟩
  cases b with
  | true => exact iteT ⟨W3, δ, m3, e3, S3, N.mono ((x1.keep S).trans ((x2.keep S1).trans (x3.keep S2))), (Post.bind (R := fun W => DR K mg W) (β := D) (α := V) h3).mono fun w H4 ⟨W4, m4, z, e4, x4, S4, r4, h4⟩ => by
      subst e4
      exact hg W4 m4 y z u w Q _ S4 (r2.mono ((x3.keep S2).trans (x4.keep S3))) r4 h4⟩
  | false => subst e3; exact iteF (fin S3 h3 (by simp only [DR]))
theorem e2_chain {op op' : CmpOp} {c : Expr} {tc : Dl → Mu → Rs D} {r r' : R2} {f g : D → D → Mu → Rs D} (ho : OpR X (compareOp op) r) (hf : Op2 X.K X.mg r f) (ho' : OpR X (compareOp op') r') (hg : Op2 X.K X.mg r' g) (ha : E2 X Wx a ta) (hb : E2 X Wx b tb) (hc : E2 X Wx c tc)
    (hm : lastMarks [op, op'] [b, c] = false := by with_unfolding_all rfl) : E2 X Wx (.Compare a [op, op'] [b, c] pos) (chain2 f g ta tb tc) :=
  PE.wk (pe_chain ho ho' ha hb hc hm) fun σ H Q h => t2_chain (c := c) hf hg h
theorem c2_chain {op op' : CmpOp} {c : Expr} {tc : Dl → Mu → Rs D} {r r' : R2} {f g : D → D → Mu → Rs D} (ho : OpR X (compareOp op) r) (hf : Op2 X.K X.mg r f) (ho' : OpR X (compareOp op') r') (hg : Op2 X.K X.mg r' g) (ha : E2 X Wx a ta) (hb : E2 X Wx b tb) (hc : E2 X Wx c tc)
    (hm : lastMarks [op, op'] [b, c] = false := by with_unfolding_all rfl) : C2 X Wx (.Compare a [op, op'] [b, c] pos) (bool2 (chain2 f g ta tb tc)) :=
  PT.wk (pt_chain ho ho' ha hb hc hm) fun σ H Q ⟨W, δ, m, e, S, N, h⟩ => by
    refine t2_chain (Wx := Wx) (c := c) hf hg ⟨W, δ, m, e, S, N, (Post.bind h).mono fun v H1 ⟨W1, m1, x, e1, x1, S1, r1, h1⟩ => ?_⟩
    subst e1
    exact bool_post S1 r1 h1
end
end Dn
set_option Elab.async false
set_option linter.all false
set_option maxRecDepth 100000
set_option maxHeartbeats 2000000
namespace Dn
open PySem PySem.Spec PyProof.Rows L2
/-! ### plain data: none, bools, ints, texts, lists and tuples of such -/
mutual
def D.py : D → PyData
  | .bl b => .bool b
  | .int i => .int i
  | .str x => .str (toS x)
  | .tup xs => .tuple (D.pys xs)
  | .lst xs => .list (D.pys xs)
  | _ => .none
def D.pys : List D → List PyData
  | [] => []
  | x :: xs => D.py x :: D.pys xs
end
mutual
/-- plain, at most so deep -/
def D.pd : D → Option Nat
  | .non => some 0
  | .bl _ => some 0
  | .int _ => some 0
  | .str x => if x.all (· < 1114112) then some 0 else none
  | .tup xs => (D.pds xs).map (· + 1)
  | .lst xs => (D.pds xs).map (· + 1)
  | _ => none
def D.pds : List D → Option Nat
  | [] => some 0
  | x :: xs => match D.pd x, D.pds xs with
    | some a, some b => some (max a b)
    | _, _ => none
end
mutual
def D.eq : D → D → Bool
  | .non, .non => true
  | .bl a, .bl b => a == b
  | .bl a, .int j => (if a then 1 else 0) == j
  | .int i, .bl b => i == (if b then 1 else 0)
  | .int i, .int j => i == j
  | .str x, .str y => x == y
  | .lst xs, .lst ys => D.eqs xs ys
  | .tup xs, .tup ys => D.eqs xs ys
  | _, _ => false
def D.eqs : List D → List D → Bool
  | [], [] => true
  | x :: xs, y :: ys => D.eq x y && D.eqs xs ys
  | _, _ => false
end
section
variable {K : PySem.W.Frag} {mg : Str → Option Value} {W : Wd}
theorem str_ok {x : Cs} (h : x.all (· < 1114112) = true) : PyData.strOk (toS x) = true := by
  unfold PyData.strOk toS
  rw [← Array.all_toList]
  simpa using h
mutual
theorem pd_dp : ∀ (d : D) (v : V) (n : Nat), d.pd = some n → DR K mg W d v → Dp K W.H v d.py ∧ d.py.canLay0 = true ∧ d.py.depth = n
  | .non, v, n, h, r => by simp only [DR] at r; subst r; simp only [D.pd, Option.some.injEq] at h; subst h; exact ⟨.non, by simp [D.py, PyData.canLay0], by simp [D.py, PyData.depth]⟩
  | .bl b, v, n, h, r => by simp only [DR] at r; subst r; simp only [D.pd, Option.some.injEq] at h; subst h; exact ⟨.bl b, by simp [D.py, PyData.canLay0], by simp [D.py, PyData.depth]⟩
  | .int b, v, n, h, r => by simp only [DR] at r; subst r; simp only [D.pd, Option.some.injEq] at h; subst h; exact ⟨.int b, by simp [D.py, PyData.canLay0], by simp [D.py, PyData.depth]⟩
  | .str b, v, n, h, r => by
    simp only [DR] at r; subst r; simp only [D.pd] at h
    split at h
    · rename_i ho
      cases h
      exact ⟨.str _, by simp only [D.py, PyData.canLay0]; exact str_ok ho, by simp [D.py, PyData.depth]⟩
    · cases h
  | .tup xs, v, n, h, r => by
    simp only [DR] at r
    obtain ⟨a, vs, rfl, hs, r⟩ := r
    simp only [D.pd, Option.map_eq_some_iff] at h
    obtain ⟨k, hk, rfl⟩ := h
    obtain ⟨h1, h2, h3⟩ := pds_dp xs vs k hk r
    exact ⟨by simp only [D.py]; exact .tup (sqT_of hs) h1, by simp only [D.py, PyData.canLay0]; exact h2, by simp only [D.py, PyData.depth, h3]⟩
  | .lst xs, v, n, h, r => by
    simp only [DR] at r
    obtain ⟨a, vs, rfl, hs, _, r⟩ := r
    simp only [D.pd, Option.map_eq_some_iff] at h
    obtain ⟨k, hk, rfl⟩ := h
    obtain ⟨h1, h2, h3⟩ := pds_dp xs vs k hk r
    exact ⟨by simp only [D.py]; exact .lst (SqL.of hs) h1, by simp only [D.py, PyData.canLay0]; exact h2, by simp only [D.py, PyData.depth, h3]⟩
  | .ty _, v, n, h, r => by simp [D.pd] at h
  | .scr _, v, n, h, r => by simp [D.pd] at h
  | .dct _ _, v, n, h, r => by simp [D.pd] at h
  | .ins _ _ _, v, n, h, r => by simp [D.pd] at h
  | .ref _, v, n, h, r => by simp [D.pd] at h
  | .glo _, v, n, h, r => by simp [D.pd] at h
theorem pds_dp : ∀ (ds : List D) (vs : List V) (n : Nat), D.pds ds = some n → DRs K mg W ds vs → DpAll K W.H vs (D.pys ds) ∧ PyData.canLayAll0 (D.pys ds) = true ∧ PyData.depthAll (D.pys ds) = n
  | [], vs, n, h, r => by simp only [DRs] at r; subst r; simp only [D.pds, Option.some.injEq] at h; subst h; exact ⟨by simp only [D.pys]; exact .nil, by simp [D.pys, PyData.canLayAll0], by simp [D.pys, PyData.depthAll]⟩
  | d :: ds, vs, n, h, r => by
    simp only [DRs] at r
    obtain ⟨v, l, rfl, r1, r2⟩ := r
    simp only [D.pds] at h
    split at h
    · rename_i a b ha hb
      cases h
      obtain ⟨h1, h2, h3⟩ := pd_dp d v a ha r1
      obtain ⟨q1, q2, q3⟩ := pds_dp ds l b hb r2
      exact ⟨by simp only [D.pys]; exact .cons h1 q1, by simp [D.pys, PyData.canLayAll0, h2, q2], by simp [D.pys, PyData.depthAll, h3, q3]⟩
    · cases h
end
theorem toS_beq (x y : Cs) : (toS x == toS y) = (x == y) := by
  by_cases h : x = y
  · subst h; simp
  · have h2 : toS x ≠ toS y := fun e => h (toS_inj e)
    rw [beq_eq_false_iff_ne.mpr h, beq_eq_false_iff_ne.mpr h2]
mutual
theorem eqv_py : ∀ (d e : D) (n k : Nat), d.pd = some n → e.pd = some k → PyData.eqv d.py e.py = D.eq d e
  | .non, e, n, k, h, h' => by cases e <;> simp_all [D.pd, D.py, D.eq, PyData.eqv]
  | .bl b, e, n, k, h, h' => by cases e <;> simp_all [D.pd, D.py, D.eq, PyData.eqv]
  | .int b, e, n, k, h, h' => by cases e <;> simp_all [D.pd, D.py, D.eq, PyData.eqv]
  | .str b, e, n, k, h, h' => by
    cases e <;> simp_all [D.pd, D.py, D.eq, PyData.eqv, toS_beq]
  | .tup xs, e, n, k, h, h' => by
    cases e with
    | tup ys =>
      simp only [D.pd, Option.map_eq_some_iff] at h h'
      obtain ⟨a, ha, _⟩ := h
      obtain ⟨b, hb, _⟩ := h'
      simp only [D.py, D.eq, PyData.eqv]
      exact eqvs_py xs ys a b ha hb
    | _ => simp_all [D.pd, D.py, D.eq, PyData.eqv]
  | .lst xs, e, n, k, h, h' => by
    cases e with
    | lst ys =>
      simp only [D.pd, Option.map_eq_some_iff] at h h'
      obtain ⟨a, ha, _⟩ := h
      obtain ⟨b, hb, _⟩ := h'
      simp only [D.py, D.eq, PyData.eqv]
      exact eqvs_py xs ys a b ha hb
    | _ => simp_all [D.pd, D.py, D.eq, PyData.eqv]
  | .ty _, e, n, k, h, h' => by simp [D.pd] at h
  | .scr _, e, n, k, h, h' => by simp [D.pd] at h
  | .dct _ _, e, n, k, h, h' => by simp [D.pd] at h
  | .ins _ _ _, e, n, k, h, h' => by simp [D.pd] at h
  | .ref _, e, n, k, h, h' => by simp [D.pd] at h
  | .glo _, e, n, k, h, h' => by simp [D.pd] at h
theorem eqvs_py : ∀ (ds es : List D) (n k : Nat), D.pds ds = some n → D.pds es = some k → PyData.eqvAll (D.pys ds) (D.pys es) = D.eqs ds es
  | [], [], n, k, h, h' => by simp [D.pys, PyData.eqvAll, D.eqs]
  | [], e :: es, n, k, h, h' => by simp [D.pys, PyData.eqvAll, D.eqs]
  | d :: ds, [], n, k, h, h' => by simp [D.pys, PyData.eqvAll, D.eqs]
  | d :: ds, e :: es, n, k, h, h' => by
    simp only [D.pds] at h h'
    split at h
    · rename_i a b ha hb
      split at h'
      · rename_i a' b' ha' hb'
        simp only [D.pys, PyData.eqvAll, D.eqs]
        rw [eqv_py d e a a' ha ha', eqvs_py ds es b b' hb hb']
      · cases h'
    · cases h
end
/-- a look at what a cell holds, as data -/
theorem rd_dp {d : D} {v : V} {n : Nat} (h : d.pd = some n) (r : RD K mg W d v) : Dp K W.H v d.py ∧ d.py.canLay0 = true ∧ d.py.depth = n := by
  cases d with
  | lst xs =>
    obtain ⟨a, vs, rfl, hs, r⟩ := r
    simp only [D.pd, Option.map_eq_some_iff] at h
    obtain ⟨k, hk, rfl⟩ := h
    obtain ⟨h1, h2, h3⟩ := pds_dp xs vs k hk r
    exact ⟨by simp only [D.py]; exact .lst (SqL.of hs) h1, by simp only [D.py, PyData.canLay0]; exact h2, by simp only [D.py, PyData.depth, h3]⟩
  | dct ks ds => simp [D.pd] at h
  | dctT ks ds => simp [D.pd] at h
  | ins c ns ds => simp [D.pd] at h
  | _ => exact pd_dp (mg := mg) _ v n h r
theorem shaped_of {p : PyData} {n : Nat} (h : p.canLay0 = true) (hd : p.depth = n) (hn : n ≤ 60) : SeqAt.shaped p = true := by
  unfold SeqAt.shaped
  rw [h, hd]
  simp; omega
end
def eqB (m : Mu) (x y : D) : Option Bool := match (look m x).pd, (look m y).pd with
  | some a, some b => if a ≤ 60 ∧ b ≤ 60 then some (D.eq (look m x) (look m y)) else none
  | _, _ => none
def eqD (x y : D) (m : Mu) : Rs D := match eqB m x y with | some b => .ok (.bl b) m | none => .bad
def neD (x y : D) (m : Mu) : Rs D := match eqB m x y with | some b => .ok (.bl (!b)) m | none => .bad
theorem eqB_of {K : PySem.W.Frag} {mg : Str → Option Value} {W : Wd} {m : Mu} {x y : D} {v u : V} {k : Bool} (S : Sim K mg W m) (rx : DR K mg W x v) (ry : DR K mg W y u) (h : eqB m x y = some k) :
    ∃ p q, Dp K W.H v p ∧ Dp K W.H u q ∧ SeqAt.shaped p = true ∧ SeqAt.shaped q = true ∧ PyData.eqv p q = k := by
  unfold eqB at h
  split at h
  · rename_i a b ha hb
    split at h
    · rename_i hl
      obtain ⟨h1, h2, h3⟩ := rd_dp ha (look_rd S rx)
      obtain ⟨q1, q2, q3⟩ := rd_dp hb (look_rd S ry)
      exact ⟨_, _, h1, q1, shaped_of h2 h3 hl.1, shaped_of q2 q3 hl.2, by rw [eqv_py _ _ a b ha hb]; exact Option.some.inj h⟩
    · cases h
  · cases h
section
variable {K : PySem.W.Frag} {mg : Str → Option Value}
theorem o_eq : Op2 K mg (rEqD K) eqD := by
  intro W m x y v u Q Wx S rx ry h
  unfold eqD at h
  split at h
  · rename_i b hb
    obtain ⟨p, q, h1, h2, h3, h4, h5⟩ := eqB_of S rx ry hb
    exact ⟨p, q, h1, h2, h3, h4, by rw [h5]; exact fin S h (by simp only [DR])⟩
  · exact h.elim
theorem o_ne : Op2 K mg (rNeD K) neD := by
  intro W m x y v u Q Wx S rx ry h
  unfold neD at h
  split at h
  · rename_i b hb
    obtain ⟨p, q, h1, h2, h3, h4, h5⟩ := eqB_of S rx ry hb
    exact ⟨p, q, h1, h2, h3, h4, by rw [h5]; exact fin S h (by simp only [DR])⟩
  · exact h.elim
/-! ### arithmetic -/
def small64 (i : Int) : Bool := -(2 ^ 64) < i && i < 2 ^ 64
def addD : D → D → Mu → Rs D
  | .int i, .int j, m => .ok (.int (i + j)) m
  | .str x, .str y, m => if x.length + y.length ≤ SZ then .ok (.str (x ++ y)) m else .bad
  | .lst x, .lst y, m => if x.length + y.length ≤ SZ then .ok (.lst (x ++ y)) m else .bad
  | .tup x, .tup y, m => if x.length + y.length ≤ SZ then .ok (.tup (x ++ y)) m else .bad
  | _, _, _ => .bad
def subD : D → D → Mu → Rs D
  | .int i, .int j, m => .ok (.int (i - j)) m
  | _, _, _ => .bad
def mulD : D → D → Mu → Rs D
  | .int i, .int j, m => if small64 i || small64 j then .ok (.int (i * j)) m else .bad
  | .lst x, .int k, m => if 0 ≤ k ∧ k < 2 ^ 63 ∧ x.length * k.toNat ≤ SZ then .ok (.lst (List.replicate k.toNat x).flatten) m else .bad
  | .str x, .int k, m => if 0 ≤ k ∧ k < 2 ^ 63 ∧ x.length * k.toNat ≤ SZ then .ok (.str (List.replicate k.toNat x).flatten) m else .bad
  | _, _, _ => .bad
def fdivD : D → D → Mu → Rs D
  | .int i, .int j, m => if 0 < j ∧ j.natAbs.log2 < 9000 then .ok (.int (i / j)) m else .bad
  | _, _, _ => .bad
def modD : D → D → Mu → Rs D
  | .int i, .int j, m => if 0 < j then .ok (.int (i % j)) m else .bad
  | _, _, _ => .bad
def powD : D → D → Mu → Rs D
  | .int i, .int j, m => if 0 ≤ j ∧ j ≤ 1000000 ∧ i.natAbs < 2 ^ 64 then .ok (.int (i ^ j.toNat)) m else .bad
  | _, _, _ => .bad
def cmpI (f : Int → Int → Bool) (g : Cs → Cs → Bool) : D → D → Mu → Rs D
  | .int i, .int j, m => .ok (.bl (f i j)) m
  | .str x, .str y, m => .ok (.bl (g x y)) m
  | _, _, _ => .bad
def ltC (x y : Cs) : Bool := decide (x < y)
abbrev ltD := cmpI (fun i j => decide (i < j)) ltC
abbrev leD := cmpI (fun i j => decide (i ≤ j)) fun x y => !ltC y x
abbrev gtD := cmpI (fun i j => decide (j < i)) fun x y => ltC y x
abbrev geD := cmpI (fun i j => decide (j ≤ i)) fun x y => !ltC x y
abbrev rOr (r r' : R2) : R2 := fun x y H Q => r x y H Q ∨ r' x y H Q
def rAdd4 (K : PySem.W.Frag) : R2 := rOr (rI0 fun i j => .int (i + j)) (rOr (fun x y H Q => ∃ i j, x = .str i ∧ y = .str j ∧ i.length + j.length ≤ sizeLine ∧ Q (.str (i ++ j)) H) (rOr rCat (rCatA K)))
theorem p_add {X : Cx} : OpR X (binaryOp .Add) (rAdd4 X.K) := op_add.or (op_add_str.or (op_cat.or op_catA))
theorem toS_app (x y : Cs) : toS x ++ toS y = toS (x ++ y) := by
  show Str.mk _ = Str.mk _
  simp [toS]
theorem o_add : Op2 K mg (rAdd4 K) addD := by
  intro W m x y v u Q Wx S rx ry h
  unfold addD at h
  split at h
  · simp only [DR] at rx ry
    exact .inl ⟨_, _, rx, ry, fin S h (by simp only [DR])⟩
  · simp only [DR] at rx ry
    split at h
    · rename_i hl
      exact .inr (.inl ⟨_, _, rx, ry, by rw [toS_len, toS_len, SZ_eq]; exact hl, fin S h (by simp only [DR]; rw [toS_app])⟩)
    · exact h.elim
  · simp only [DR] at rx ry
    obtain ⟨a, xs, rfl, ha, na, r1⟩ := rx
    obtain ⟨b, ys, rfl, hb, nb, r2⟩ := ry
    split at h
    · rename_i hl
      exact .inr (.inr (.inl ⟨a, b, xs, ys, rfl, rfl, ha, hb, by rw [r1.len, r2.len, SZ_eq]; exact hl, new_lst S (r1.append r2) h⟩))
    · exact h.elim
  · simp only [DR] at rx ry
    obtain ⟨a, xs, rfl, ha, r1⟩ := rx
    obtain ⟨b, ys, rfl, hb, r2⟩ := ry
    split at h
    · rename_i hl
      refine .inr (.inr (.inr ⟨a, b, xs, ys, rfl, rfl, sqT_of ha, sqT_of hb, by rw [r1.len, r2.len, SZ_eq]; exact hl, fun e => ?_, fun _ e => ?_, fun _ _ => new_tup S (r1.append r2) h⟩))
      · have e1 : (_ : List D) = [] := List.length_eq_zero_iff.mp (by rw [← r1.len, e]; rfl)
        subst e1
        exact fin S h (by simp only [DR, List.nil_append]; exact ⟨b, ys, rfl, hb, r2⟩)
      · have e1 : (_ : List D) = [] := List.length_eq_zero_iff.mp (by rw [← r2.len, e]; rfl)
        subst e1
        exact fin S h (by simp only [DR, List.append_nil]; exact ⟨a, xs, rfl, ha, r1⟩)
    · exact h.elim
  · exact h.elim
theorem o_sub : Op2 K mg (rI0 fun i j => .int (i - j)) subD := by
  intro W m x y v u Q Wx S rx ry h
  unfold subD at h
  split at h
  · simp only [DR] at rx ry
    exact ⟨_, _, rx, ry, fin S h (by simp only [DR])⟩
  · exact h.elim
theorem foldl_app (l : List (Array Nat)) (a : Array Nat) : (List.foldl (fun x y => x ++ y) a l).toList = a.toList ++ (l.map (·.toList)).flatten := by
  induction l generalizing a with
  | nil => simp
  | cons x l ih => simp [ih]
def rMulS : R2 := fun x y H Q => ∃ (z : Str) (k : Int), x = .str z ∧ y = .int k ∧ -(2 ^ 63) ≤ k ∧ k < 2 ^ 63 ∧ z.length * k.toNat ≤ sizeLine ∧ Q (.str ⟨(List.replicate k.toNat z.cps.toList).flatten.toArray⟩) H
theorem op_mulS {X : Cx} : OpR X (binaryOp .Mult) rMulS := by
  intro pins s σ H x y v u Q I rx ry ⟨z, k, ex, ey, h1, h2, h3, q⟩
  subst ex ey
  obtain ⟨t, rfl⟩ := (show ∃ t, v = Value.str z t from rx)
  obtain ⟨t2, rfl⟩ := (show ∃ t, u = Value.int k t from ry)
  have hs : sizeLine = 16777216 := SZ_eq.symm
  have fin : ∀ (z' : Str) (t' : Tok) (s' : Shared), L2.Inv X pins σ H s' → z' = ⟨(List.replicate k.toNat z.cps.toList).flatten.toArray⟩ → EP X pins σ Q (.str z' t') s' := fun z' t' s' I' e => ⟨.str z', H, I', ⟨t', rfl⟩, by rw [e]; exact q⟩
  refine P.mul_str (by simp; omega) (fun a b => ?_) (fun a b => ?_) ?_
  · have : (z.length : Int) ≤ (2 ^ 63 - 1) / k := by
      refine Int.le_ediv_of_mul_le (by omega) ?_
      have e : ((z.length * k.toNat : Nat) : Int) = (z.length : Int) * k := by
        rw [Int.natCast_mul, Int.toNat_of_nonneg (by omega)]
      have : ((z.length * k.toNat : Nat) : Int) ≤ 16777216 := by omega
      rw [e] at this
      omega
    omega
  · unfold Builtin.Str.tooLong
    simp
    omega
  · by_cases h : k < 1
    · rw [if_pos h]
      have hk : k.toNat = 0 := by omega
      simp only [Made.post]
      refine ⟨Nat.zero_le _, fin _ _ _ (I.tok _) ?_⟩
      rw [hk]
      rfl
    · rw [if_neg h]
      split
      · rename_i hc
        simp only [Made.post]
        refine fin _ _ _ I ?_
        simp only [Bool.or_eq_true, beq_iff_eq] at hc
        rcases hc with hc | hc
        · subst hc
          simp
        · have : z.cps = #[] := Array.eq_empty_of_size_eq_zero hc
          cases z with
          | mk c =>
            dsimp only at this
            subst this
            simp
      · simp only [Made.post]
        have e : (List.foldl (fun x1 x2 => x1 ++ x2) #[] (List.replicate k.toNat z.cps)) = (List.replicate k.toNat z.cps.toList).flatten.toArray := by
          apply Array.ext'
          rw [foldl_app]
          simp
        refine ⟨?_, fin _ _ _ (I.tok _) (by rw [e])⟩
        rw [e]
        simp only [Str.length, List.size_toArray, List.length_flatten, List.map_replicate, List.sum_replicate_nat, Array.length_toList] at h3 ⊢
        rw [Nat.mul_comm]
        exact h3
def rMul2 : R2 := rOr (rI CMul fun i j => .int (i * j)) (rOr rRep rMulS)
theorem p_mul {X : Cx} : OpR X (binaryOp .Mult) rMul2 := op_mul.or (op_rep.or op_mulS)
theorem DRs.rep {W : Wd} {ds : List D} {vs : List V} (r : DRs K mg W ds vs) : ∀ n, DRs K mg W (List.replicate n ds).flatten (List.replicate n vs).flatten
  | 0 => by simp only [List.replicate_zero, List.flatten_nil]; exact DRs.nil
  | n + 1 => by simp only [List.replicate_succ, List.flatten_cons]; exact r.append (r.rep n)
theorem o_mul : Op2 K mg rMul2 mulD := by
  intro W m x y v u Q Wx S rx ry h
  unfold mulD at h
  split at h
  · simp only [DR] at rx ry
    split at h
    · rename_i i j hc
      refine .inl ⟨_, _, rx, ry, ?_, fin S h (by simp only [DR])⟩
      simp only [small64, Bool.or_eq_true, Bool.and_eq_true, decide_eq_true_eq] at hc
      exact hc
    · exact h.elim
  · simp only [DR] at rx ry
    obtain ⟨a, xs, rfl, ha, na, r1⟩ := rx
    split at h
    · rename_i hc
      exact .inr (.inl ⟨a, _, xs, rfl, ry, ha, by omega, hc.2.1, by rw [r1.len, SZ_eq]; exact hc.2.2, new_lst S (r1.rep _) h⟩)
    · exact h.elim
  · simp only [DR] at rx ry
    split at h
    · rename_i hc
      refine .inr (.inr ⟨_, _, rx, ry, by omega, hc.2.1, by rw [toS_len, SZ_eq]; exact hc.2.2, ?_⟩)
      rw [toS_toList]
      exact fin S h (by simp only [DR]; rfl)
    · exact h.elim
  · exact h.elim
theorem o_fdiv : Op2 K mg (rI CDivW fun i j => .int (i / j)) fdivD := by
  intro W m x y v u Q Wx S rx ry h
  unfold fdivD at h
  split at h
  · simp only [DR] at rx ry
    split at h
    · rename_i hc
      exact ⟨_, _, rx, ry, hc, fin S h (by simp only [DR])⟩
    · exact h.elim
  · exact h.elim
theorem o_mod : Op2 K mg (rI (fun _ j => 0 < j) fun i j => .int (i % j)) modD := by
  intro W m x y v u Q Wx S rx ry h
  unfold modD at h
  split at h
  · simp only [DR] at rx ry
    split at h
    · rename_i hc
      exact ⟨_, _, rx, ry, hc, fin S h (by simp only [DR])⟩
    · exact h.elim
  · exact h.elim
theorem o_pow : Op2 K mg (rI CPow fun i j => .int (i ^ j.toNat)) powD := by
  intro W m x y v u Q Wx S rx ry h
  unfold powD at h
  split at h
  · simp only [DR] at rx ry
    split at h
    · rename_i hc
      exact ⟨_, _, rx, ry, hc, fin S h (by simp only [DR])⟩
    · exact h.elim
  · exact h.elim
def rLt2 : R2 := rOr (rI0 fun i j => .bl (decide (i < j))) (fun x y H Q => ∃ i j, x = .str i ∧ y = .str j ∧ Q (.bl (decide (i.cps.toList < j.cps.toList))) H)
def rLe2 : R2 := rOr (rI0 fun i j => .bl (decide (i ≤ j))) (fun x y H Q => ∃ i j, x = .str i ∧ y = .str j ∧ Q (.bl (!decide (j.cps.toList < i.cps.toList))) H)
def rGt2 : R2 := rOr (rI0 fun i j => .bl (decide (j < i))) (fun x y H Q => ∃ i j, x = .str i ∧ y = .str j ∧ Q (.bl (decide (j.cps.toList < i.cps.toList))) H)
def rGe2 : R2 := rOr (rI0 fun i j => .bl (decide (j ≤ i))) (fun x y H Q => ∃ i j, x = .str i ∧ y = .str j ∧ Q (.bl (!decide (i.cps.toList < j.cps.toList))) H)
theorem p_lt {X : Cx} : OpR X (compareOp .Lt) rLt2 := op_lt.or op_lt_str
theorem p_le {X : Cx} : OpR X (compareOp .LtE) rLe2 := op_le.or op_le_str
theorem p_gt {X : Cx} : OpR X (compareOp .Gt) rGt2 := op_gt.or op_gt_str
theorem p_ge {X : Cx} : OpR X (compareOp .GtE) rGe2 := op_ge.or op_ge_str
theorem o_cmp {f : Int → Int → Bool} {g : Cs → Cs → Bool} {g' : Str → Str → Bool} (hg : ∀ x y, g' (toS x) (toS y) = g x y) : Op2 K mg (rOr (rI0 fun i j => .bl (f i j)) (fun x y H Q => ∃ i j, x = .str i ∧ y = .str j ∧ Q (.bl (g' i j)) H)) (cmpI f g) := by
  intro W m x y v u Q Wx S rx ry h
  unfold cmpI at h
  split at h
  · simp only [DR] at rx ry
    exact .inl ⟨_, _, rx, ry, fin S h (by simp only [DR])⟩
  · simp only [DR] at rx ry
    exact .inr ⟨_, _, rx, ry, by rw [hg]; exact fin S h (by simp only [DR])⟩
  · exact h.elim
theorem o_lt : Op2 K mg rLt2 ltD := o_cmp (g' := fun x y => decide (x.cps.toList < y.cps.toList)) fun x y => by simp only [toS_toList]; rfl
theorem o_le : Op2 K mg rLe2 leD := o_cmp (g' := fun x y => !decide (y.cps.toList < x.cps.toList)) fun x y => by simp only [toS_toList]; rfl
theorem o_gt : Op2 K mg rGt2 gtD := o_cmp (g' := fun x y => decide (y.cps.toList < x.cps.toList)) fun x y => by simp only [toS_toList]; rfl
theorem o_ge : Op2 K mg rGe2 geD := o_cmp (g' := fun x y => !decide (x.cps.toList < y.cps.toList)) fun x y => by simp only [toS_toList]; rfl
/-! is None -/
def D.isN : D → Bool
  | .non => true
  | _ => false
def isD : D → D → Mu → Rs D
  | x, .non, m => .ok (.bl x.isN) m
  | _, _, _ => .bad
def isntD : D → D → Mu → Rs D
  | x, .non, m => .ok (.bl (!x.isN)) m
  | _, _, _ => .bad
def rIsN2 : R2 := fun x y H Q => y = .non ∧ Q (.bl (decide (x = .non))) H
def rNotN2 : R2 := fun x y H Q => y = .non ∧ Q (.bl (!decide (x = .non))) H
theorem p_is {X : Cx} : OpR X (compareOp .Is) rIsN2 := op_isN
theorem p_isnt {X : Cx} : OpR X (compareOp .IsNot) rNotN2 := op_notN
theorem isN_of {W : Wd} {x : D} {v : V} (r : DR K mg W x v) : decide (v = .non) = x.isN := by
  cases x with
  | non => simp only [DR] at r; subst r; rfl
  | bl _ => simp only [DR] at r; subst r; rfl
  | int _ => simp only [DR] at r; subst r; rfl
  | str _ => simp only [DR] at r; subst r; rfl
  | ty _ => simp only [DR] at r; subst r; rfl
  | tup _ => simp only [DR] at r; obtain ⟨a, _, rfl, _⟩ := r; rfl
  | lst _ => simp only [DR] at r; obtain ⟨a, _, rfl, _⟩ := r; rfl
  | scr _ => simp only [DR] at r; obtain ⟨a, rfl, _⟩ := r; rfl
  | dct _ _ => simp only [DR] at r; obtain ⟨a, _, rfl, _⟩ := r; rfl
  | ins _ _ _ => simp only [DR] at r; obtain ⟨a, _, _, _, rfl, _⟩ := r; rfl
  | ref _ => simp only [DR] at r; obtain ⟨a, rfl, _⟩ := r; rfl
  | glo _ => simp only [DR] at r; obtain ⟨a, rfl, _⟩ := r; rfl
  | ktp _ => simp only [DR] at r; obtain ⟨a, _, rfl, _⟩ := r; rfl
  | dctT _ _ => simp only [DR] at r; obtain ⟨a, _, _, rfl, _⟩ := r; rfl
theorem o_is : Op2 K mg rIsN2 isD := by
  intro W m x y v u Q Wx S rx ry h
  unfold isD at h
  split at h
  · simp only [DR] at ry
    exact ⟨ry, by rw [isN_of rx]; exact fin S h (by simp only [DR])⟩
  · exact h.elim
theorem o_isnt : Op2 K mg rNotN2 isntD := by
  intro W m x y v u Q Wx S rx ry h
  unfold isntD at h
  split at h
  · simp only [DR] at ry
    exact ⟨ry, by rw [isN_of rx]; exact fin S h (by simp only [DR])⟩
  · exact h.elim
end
end Dn
set_option Elab.async false
set_option linter.all false
set_option maxRecDepth 100000
set_option maxHeartbeats 2000000
namespace Dn
open PySem PySem.Spec PyProof.Rows L2
/-! ### what may be walked: a list, a tuple, a text -/
inductive Sk where
  | lst (a : Addr) | tup (a : Addr) | txt (x : Str)
def Sk.v : Sk → V
  | .lst a => .ref a
  | .tup a => .ref a
  | .txt x => .str x
def Cont (K : PySem.W.Frag) (H : Hp) : Sk → List V → Prop
  | .lst a, vs => SqL K H a vs
  | .tup a, vs => SqT K H a vs
  | .txt x, vs => vs = x.cps.toList.map fun c => V.str ⟨#[c]⟩
def Own : Sk → Addr → Nat → Heap → Prop
  | .lst a, it, i, h => h.IsListIter it a i
  | .tup a, it, i, h => h.IsTupleIter it a i
  | .txt x, it, i, h => ∃ t, h.IsStrIter it (strIterType x) x t i
theorem Own.at {k : Sk} {it : Addr} {i : Nat} {h h' : Heap} (w : Own k it i h) (e : ∀ o, h.get? it = some o → h'.get? it = some o) : Own k it i h' := by
  cases k with
  | lst a => exact Heap.IsListIter.at w e
  | tup a => obtain ⟨o, ho, r⟩ := w; exact ⟨o, e o ho, r⟩
  | txt x => obtain ⟨t, o, ho, r⟩ := w; exact ⟨t, o, e o ho, r⟩
theorem Own.obj {k : Sk} {it : Addr} {i : Nat} {h : Heap} (w : Own k it i h) : ∃ o, h.get? it = some o ∧ ∀ v, o.data ≠ .cell v := by
  cases k with
  | lst a => obtain ⟨o, ho, _, d⟩ := w; exact ⟨o, ho, fun v q => by rw [d] at q; cases q⟩
  | tup a => obtain ⟨o, ho, _, d⟩ := w; exact ⟨o, ho, fun v q => by rw [d] at q; cases q⟩
  | txt x => obtain ⟨t, o, ho, _, d⟩ := w; exact ⟨o, ho, fun v q => by rw [d] at q; cases q⟩
section
variable {X : Cx} {pins : List (Addr × Obj)} {σ : L2.St} {H : Hp} {s : Shared}
theorem base_not {a : Addr} {o : Obj} (I : Inv X pins σ H s) (e : X.base.get? a = some o) : ¬ FpOk X pins H a := fun f => by
  rcases f.2.2.2.1 with z | z
  · exact I.ok.noex a o e z
  · exact absurd (Nat.lt_of_lt_of_le (Heap.lt_size e) (Nat.le_trans I.ok.bsz z)) (Nat.lt_irrefl _)
theorem sqL_not {a : Addr} {vs : List V} (I : Inv X pins σ H s) (h : SqL X.K H a vs) : ¬ FpOk X pins H a := fun f => by
  rcases h with (h | ⟨o, h⟩) | ⟨o, _, _, hk, _⟩
  · exact absurd h (by rw [f.1]; exact fun z => nomatch z)
  · exact absurd h (by rw [f.1]; exact fun z => nomatch z)
  · exact base_not I (I.ok.mod.kin a o hk) f
theorem sqT_not {a : Addr} {vs : List V} (I : Inv X pins σ H s) (h : SqT X.K H a vs) : ¬ FpOk X pins H a := fun f => by
  rcases h with (h | ⟨o, h⟩) | ⟨o, _, _, hk, _⟩
  · exact absurd h (by rw [f.1]; exact fun z => nomatch z)
  · exact absurd h (by rw [f.1]; exact fun z => nomatch z)
  · exact base_not I (I.ok.mod.kin a o hk) f
theorem Cont.inj {k : Sk} {vs ws : List V} (I : Inv X pins σ H s) (h : Cont X.K H k vs) (h' : Cont X.K H k ws) : vs = ws := by
  cases k with
  | lst a => exact I.list_inj h h'
  | tup a => exact I.tuple_inj h h'
  | txt x => exact h.trans h'.symm
/-- what it draws at this turn -/
theorem draw_at {k : Sk} {vs : List V} {it : Addr} {i : Nat} (hc : X.A.handled = none) (I : Inv X pins σ H s) (h : Cont X.K H k vs) (w : Own k it i s.heap) (f : FpOk X pins H it) :
    ∃ fp Pv St, Draws X.prog X.w X.A.in1 it fp vs.length Pv St ∧ St i s.heap ∧ it ∈ fp ∧ (∀ b ∈ fp, b = it ∨ ¬ FpOk X pins H b) ∧ (∀ j u, Pv j u → ∃ x, vs[j]? = some x ∧ RelV x u) ∧ (∀ j h, St j h → Own k it j h) := by
  have hh : X.A.in1.handled = none := hc
  cases k with
  | lst a =>
    obtain ⟨its, rv, p, hz⟩ := I.list h
    have na := sqL_not I h
    have ne : a ≠ it := fun z => na (z ▸ f)
    refine ⟨[it, a], fun i v => its.toArray[i]? = some v, fun i h => h.IsListIter it a i ∧ h.IsList a its.toArray, (by rw [rv.length]; exact Draws.list hh it a ne its.toArray), ⟨w, p.isList⟩, by simp, fun b hb => ?_, fun j u hu => ?_, fun j h z => z.1⟩
    · simp only [List.mem_cons, List.not_mem_nil, or_false] at hb
      exact hb.imp id fun (z : b = a) => by rw [z]; exact na
    · have hu' : its[j]? = some u := by simpa using hu
      have hj : j < vs.length := by rw [rv.length]; exact (List.getElem?_eq_some_iff.mp hu').1
      obtain ⟨u', e', r⟩ := rv.get (i := j) (x := vs[j]) (by simp [hj])
      rw [hu'] at e'; cases e'
      exact ⟨_, by simp [hj], r⟩
  | tup a =>
    obtain ⟨its, rv, p, hz⟩ := I.tuple h
    have na := sqT_not I h
    have ne : a ≠ it := fun z => na (z ▸ f)
    refine ⟨[it, a], fun i v => its.toArray[i]? = some v, fun i h => h.IsTupleIter it a i ∧ h.IsTuple a its.toArray, (by rw [rv.length]; exact Draws.tuple hh it a ne its.toArray), ⟨w, (show s.heap.IsTuple a its.toArray from p)⟩, by simp, fun b hb => ?_, fun j u hu => ?_, fun j h z => z.1⟩
    · simp only [List.mem_cons, List.not_mem_nil, or_false] at hb
      exact hb.imp id fun (z : b = a) => by rw [z]; exact na
    · have hu' : its[j]? = some u := by simpa using hu
      have hj : j < vs.length := by rw [rv.length]; exact (List.getElem?_eq_some_iff.mp hu').1
      obtain ⟨u', e', r⟩ := rv.get (i := j) (x := vs[j]) (by simp [hj])
      rw [hu'] at e'; cases e'
      exact ⟨_, by simp [hj], r⟩
  | txt x =>
    obtain ⟨t, w⟩ := w
    have hv : vs = x.cps.toList.map fun c => V.str ⟨#[c]⟩ := h
    refine ⟨[it], (fun i v => ∃ c u, x.cps[i]? = some c ∧ v = .str ⟨#[c]⟩ u), (fun i h => h.IsStrIter it (strIterType x) x t i), (by rw [hv, List.length_map, Array.length_toList]; exact Draws.text hh it x t), w, by simp, fun b hb => ?_, fun j u hu => ?_, fun j h z => ⟨t, z⟩⟩
    · simp only [List.mem_cons, List.not_mem_nil, or_false] at hb
      exact .inl hb
    · obtain ⟨c, tk, hcx, rfl⟩ := hu
      refine ⟨.str ⟨#[c]⟩, ?_, tk, rfl⟩
      rw [hv, List.getElem?_map]
      have : x.cps.toList[j]? = some c := by simpa using hcx
      rw [this]; rfl
theorem begin_of {k : Sk} {vs : List V} {u : Value} (I : Inv X pins σ H s) (h : Cont X.K H k vs) (r : RelV k.v u) : ∃ o Hc, Begins u o Hc ∧ Hc s.heap ∧ ∀ it (h' : Heap), h'.get? it = some o → Own k it 0 h' := by
  cases k with
  | lst a =>
    cases (show u = Value.ref a from r)
    obtain ⟨its, rv, p, hz⟩ := I.list h
    exact ⟨_, _, begins_list a its.toArray, p.isList, fun it h' e => ⟨_, e, rfl, rfl⟩⟩
  | tup a =>
    cases (show u = Value.ref a from r)
    obtain ⟨its, rv, p, hz⟩ := I.tuple h
    exact ⟨_, _, begins_tuple a its.toArray, (show s.heap.IsTuple a its.toArray from p), fun it h' e => ⟨_, e, rfl, rfl⟩⟩
  | txt x =>
    obtain ⟨t, rfl⟩ := (show ∃ t, u = Value.str x t from r)
    exact ⟨_, _, begins_text x t, trivial, fun it h' e => ⟨t, _, e, rfl, rfl⟩⟩
end
/-! ### one of them, itself -/
def ItK (K : PySem.W.Frag) (k : Sk) : It :=
  ⟨fun i H => ∃ vs x, Cont K H k vs ∧ vs[i]? = some x, fun i H x H' => H' = H ∧ ∀ vs, Cont K H k vs → vs[i]? = some x, fun i H => ∃ vs, Cont K H k vs ∧ i = vs.length⟩
theorem not_pair {k : Sk} {it : Addr} {i : Nat} {h : Heap} (w : Own k it i h) : ∃ o n vs, h.get? it = some o ∧ o.cls = .type n ∧ o.data = .fields vs ∧ ["enumerate", "zip", "dict_itemiterator", "dict_reverseitemiterator", "odict_iterator", "itertools.zip_longest", "itertools.pairwise"].contains n = false := by
  cases k with
  | lst a => obtain ⟨o, ho, c, d⟩ := w; exact ⟨o, _, _, ho, c, d, by decide⟩
  | tup a => obtain ⟨o, ho, c, d⟩ := w; exact ⟨o, _, _, ho, c, d, by decide⟩
  | txt x =>
    obtain ⟨t, o, ho, c, d⟩ := w
    refine ⟨o, _, _, ho, c, d, ?_⟩
    unfold strIterType
    split <;> decide
theorem itk_turn {P : Program} {w : World} {K : PySem.W.Frag} {tg : Expr} (k : Sk) (it : Addr) :
    ∃ J : It, (∀ i H, (∃ vs x, Cont K H k vs ∧ vs[i]? = some x) → J.go i H) ∧ (∀ i H, (∃ vs, Cont K H k vs ∧ i = vs.length) → J.stop i H) ∧
      (∀ i H x H', J.yld i H x H' → H' = H ∧ ∀ vs, Cont K H k vs → vs[i]? = some x) ∧ Turn P w K tg J [it] it (fun i h => Own k it i h) := by
  cases k with
  | lst a => exact ⟨Itl K a, fun i H ⟨vs, x, h, e⟩ => ⟨vs, x, h, e⟩, fun i H ⟨vs, h, e⟩ => ⟨vs, h, by omega⟩, fun i H x H' h => h, turn_list a it⟩
  | tup a => exact ⟨Itt K a, fun i H ⟨vs, x, h, e⟩ => ⟨vs, x, h, e⟩, fun i H ⟨vs, h, e⟩ => ⟨vs, h, by omega⟩, fun i H x H' h => h, turn_tuple a it⟩
  | txt x =>
    have hty : strIterType x = "str_ascii_iterator" ∨ strIterType x = "str_iterator" := by unfold strIterType; split <;> simp
    refine ⟨Its x, fun i H ⟨vs, y, h, e⟩ => ?_, fun i H ⟨vs, h, e⟩ => ?_, fun i H y H' h => ?_, ?_⟩
    · have h' : vs = x.cps.toList.map fun c => V.str ⟨#[c]⟩ := h
      have := (List.getElem?_eq_some_iff.mp e).1
      rw [h', List.length_map, Array.length_toList] at this
      exact this
    · have h' : vs = x.cps.toList.map fun c => V.str ⟨#[c]⟩ := h
      rw [h', List.length_map, Array.length_toList] at e
      exact Nat.le_of_eq e.symm
    · obtain ⟨e1, c, e2, e3⟩ := h
      refine ⟨e1, fun vs hv => ?_⟩
      have h' : vs = x.cps.toList.map fun c => V.str ⟨#[c]⟩ := hv
      rw [h', List.getElem?_map]
      have : x.cps.toList[i]? = some c := by simpa using e2
      rw [this, e3]; rfl
    · have T := fun t => turn_str (P := P) (w := w) (K := K) (tg := tg) it x t (strIterType x) hty
      exact {
        mem := by simp
        obj := fun i h st b hb => by
          have e : b = it := by simpa using hb
          subst e
          exact Own.obj (k := .txt x) st
        keep := fun i h h' st kk => Own.at (k := .txt x) st fun o e => kk it (by simp) o e
        item := fun X hP hw hK hc i pins s σ H E I hf st hg => by
          obtain ⟨t, st⟩ := st
          refine thn ((T t).item X hP hw hK hc i pins s σ H E I hf st hg) fun r s1 ⟨u, e, h⟩ => ⟨u, e, thn h fun _ s2 ⟨y, H', I', ry, yl, st', hn⟩ => ⟨y, H', I', ry, yl, ⟨t, st'⟩, hn⟩⟩
        done := fun X hP hw hK hc i pins s σ H E I hf st hg => by
          obtain ⟨t, st⟩ := st
          exact (T t).done X hP hw hK hc i pins s σ H E I hf st hg
        self := fun A i s Q E st h => by
          obtain ⟨t, st⟩ := st
          exact (T t).self A i s Q E st h }
/-! ### enumerate -/
def ItE (K : PySem.W.Frag) (k : Sk) : It :=
  ⟨fun i H => ∃ vs x, Cont K H k vs ∧ vs[i]? = some x, fun i H v H' => ∃ T x, v = .ref T ∧ H T = none ∧ H' = upd H T (.tup [.int (i : Nat), x]) ∧ ∀ vs, Cont K H k vs → vs[i]? = some x, fun i H => ∃ vs, Cont K H k vs ∧ i = vs.length⟩
theorem turn_enumK {P : Program} {w : World} {K : PySem.W.Frag} {elts : List Expr} {kk : Nat} {tpos : Pos} (k : Sk) (e it : Addr) :
    Turn P w K (.Tuple elts kk tpos) (ItE K k) [e, it] e (fun i h => (∃ old, IsEnum h e it ((i : Nat) : Int) old) ∧ Own k it i h ∧ e ≠ it) where
  mem := by simp
  obj := fun i h st b hb => by
    obtain ⟨⟨old, he⟩, ho, _⟩ := st
    have e' : b = e ∨ b = it := by simpa using hb
    rcases e' with z | z
    · rw [z]; exact ⟨_, he, fun v q => nomatch q⟩
    · rw [z]; exact ho.obj
  keep := fun i h h' st kp => let ⟨⟨old, he⟩, hi, hne⟩ := st; ⟨⟨old, kp e (by simp) _ he⟩, hi.at fun o q => kp it (by simp) o q, hne⟩
  item := by
    intro X hP hw hK hc i pins s σ H E I hf st hg
    subst hP hw hK
    obtain ⟨⟨old, he⟩, hit, hne⟩ := st
    obtain ⟨vs, x, hq, hx⟩ := hg
    obtain ⟨fp, Pv, St, D, st, mit, sep, rel, own⟩ := draw_at (I.ok.hd hc) I hq hit (hf it (by simp))
    have hel : e < s.heap.objs.size := Heap.lt_size he
    have hil : it < s.heap.objs.size := by obtain ⟨_, q, _⟩ := hit.obj; exact Heap.lt_size q
    have hef : e ∉ fp := fun z => (sep e z).elim hne fun n => n (hf e (by simp))
    have hlt : i < vs.length := (List.getElem?_eq_some_iff.mp hx).1
    refine wpAny_pyNext_enum_itemD D he st hlt hne hef fun u h' tk pu ho hst' hT hsz hk => ?_
    obtain ⟨x', hx', ru⟩ := rel i u pu
    rw [hx] at hx'; cases hx'
    refine ⟨_, rfl, wpAny_letOwnedTupleGo_enum (s := { s with heap := h', toks := tk + 1 }) ho fun h'' he' sb => ?_⟩
    have hT2 : h''.get? s.heap.objs.size = some { cls := .type "tuple", data := .seq #[.int i tk, u] } := (sb.2 _ (Nat.ne_of_gt hel)).trans hT
    have new : ObjOk X.prog X.w (upd H s.heap.objs.size (.tup [.int (i : Nat), x])) h'' s.heap.objs.size (.tup [.int (i : Nat), x]) :=
      ⟨by show 2 ≤ sizeLine; decide, [.int i tk, u], .cons ⟨_, rfl⟩ (.cons ru .nil), ⟨_, hT2, rfl, _, rfl⟩⟩
    have I1 : Inv X pins σ (upd H s.heap.objs.size (.tup [.int (i : Nat), x])) { s with heap := h'', toks := tk + 1 } :=
      I.turnedNew (ch := [e, it]) (fun b ob hb q => (sb.2 b (fun z => hb (by simp [z]))).trans (hk b ob (fun z => hb (by simp [z])) (fun z => hb (by simp [z])) q)) hf (Nat.le_refl _) new
    refine ⟨.ref s.heap.objs.size, _, I1, rfl, ⟨_, x, rfl, I.hok.fresh (Nat.le_refl _), rfl, fun ys hy => by rw [hy.inj I hq]; exact hx⟩, ⟨⟨u, ?_⟩, (own _ _ hst').at fun o q => (sb.2 it (Ne.symm hne)).trans q, hne⟩, fun b hb => ?_⟩
    · have e1 : ((i + 1 : Nat) : Int) = (i : Int) + 1 := by omega
      rw [e1]; exact he'
    · have hb' : b < s.heap.objs.size := by
        have e' : b = e ∨ b = it := by simpa using hb
        rcases e' with z | z
        · rw [z]; exact hel
        · rw [z]; exact hil
      rw [upd_ne (Nat.ne_of_lt hb')]
      exact (hf b hb).1
  done := by
    intro X hP hw hK hc i pins s σ H E I hf st hg
    subst hP hw hK
    obtain ⟨⟨old, he⟩, hit, hne⟩ := st
    obtain ⟨vs, hq, hx⟩ := hg
    obtain ⟨fp, Pv, St, D, st, mit, sep, rel, own⟩ := draw_at (I.ok.hd hc) I hq hit (hf it (by simp))
    obtain ⟨f0, f1, f2, f3, f4, f5⟩ := hf it (by simp)
    subst hx
    exact wpAny_pyNext_enum_endD D he st fun h' eb => ⟨rfl, I.turned (t' := s.toks) (fun b o hb q => eb b o hb q) f0 f1 f3 f4 f5⟩
  self := fun A i s Q E st h => let ⟨⟨_, he⟩, _⟩ := st; wpAny_pyIter_enum he h
/-! ### zip of two, of three -/
def ItZ (K : PySem.W.Frag) (k1 k2 : Sk) : It :=
  ⟨fun i H => ∃ vs ws x y, Cont K H k1 vs ∧ Cont K H k2 ws ∧ vs[i]? = some x ∧ ws[i]? = some y,
    fun i H v H' => ∃ T x y, v = .ref T ∧ H T = none ∧ H' = upd H T (.tup [x, y]) ∧ (∀ vs, Cont K H k1 vs → vs[i]? = some x) ∧ ∀ ws, Cont K H k2 ws → ws[i]? = some y,
    fun i H => ∃ vs ws, Cont K H k1 vs ∧ Cont K H k2 ws ∧ i = min vs.length ws.length⟩
theorem turn_zipK {P : Program} {w : World} {K : PySem.W.Frag} {elts : List Expr} {kk : Nat} {tpos : Pos} (k1 k2 : Sk) {z TI TO i1 i2 : Addr} (D : [z, TI, TO, i1, i2].Nodup) :
    Turn P w K (.Tuple elts kk tpos) (ItZ K k1 k2) [z, TI, TO, i1, i2] z (fun i h => IsZip h z TI TO .none ∧ IsTupOf2 h TI (.ref i1) (.ref i2) ∧ (∃ x y, IsTupOf2 h TO x y) ∧ Own k1 i1 i h ∧ Own k2 i2 i h) := by
  simp only [List.nodup_cons, List.mem_cons, List.not_mem_nil, or_false, not_or, not_false_eq_true, List.nodup_nil, and_true] at D
  obtain ⟨⟨d1, d2, d3, d4⟩, ⟨d5, d6, d7⟩, ⟨d8, d9⟩, d10⟩ := D
  have sepOf : ∀ {X : Cx} {pins : List (Addr × Obj)} {H : Hp} {fp1 fp2 : List Addr}, (∀ b ∈ [z, TI, TO, i1, i2], FpOk X pins H b) → i1 ∈ fp1 → i2 ∈ fp2 → (∀ b ∈ fp1, b = i1 ∨ ¬ FpOk X pins H b) → (∀ b ∈ fp2, b = i2 ∨ ¬ FpOk X pins H b) → ZipSep2 z TI TO i1 i2 fp1 fp2 := fun {X pins H fp1 fp2} hf m1 m2 s1 s2 => {
    TIz := Ne.symm d1, TOz := Ne.symm d2, TITO := d5, TIi1 := d6, mem1 := m1, mem2 := m2, TIi2 := d7
    zf1 := fun q => (s1 z q).elim d3 fun n => n (hf z (by simp))
    Tf1 := fun q => (s1 TO q).elim d8 fun n => n (hf TO (by simp))
    zf2 := fun q => (s2 z q).elim d4 fun n => n (hf z (by simp))
    Tf2 := fun q => (s2 TO q).elim d9 fun n => n (hf TO (by simp))
    sep1_2 := fun q => (s2 i1 q).elim d10 fun n => n (hf i1 (by simp))
    sep2_1 := fun q => (s1 i2 q).elim (Ne.symm d10) fun n => n (hf i2 (by simp)) }
  refine ⟨by simp, fun i h st c hc => ?_, fun i h h' st k => ?_, ?_, ?_, fun A i s Q E st h => wpAny_pyIter_zip st.1 h⟩
  · obtain ⟨hz, hTI, ⟨x, y, hTO⟩, h1, h2⟩ := st
    have e' : c = z ∨ c = TI ∨ c = TO ∨ c = i1 ∨ c = i2 := by simpa using hc
    rcases e' with q | q | q | q | q
    · rw [q]; exact ⟨_, hz, fun v q => nomatch q⟩
    · rw [q]; exact ⟨_, hTI, fun v q => nomatch q⟩
    · rw [q]; exact ⟨_, hTO, fun v q => nomatch q⟩
    · rw [q]; exact h1.obj
    · rw [q]; exact h2.obj
  · obtain ⟨hz, hTI, ⟨x, y, hTO⟩, h1, h2⟩ := st
    exact ⟨k z (by simp) _ hz, k TI (by simp) _ hTI, ⟨x, y, k TO (by simp) _ hTO⟩, h1.at fun o q => k i1 (by simp) o q, h2.at fun o q => k i2 (by simp) o q⟩
  · intro X hP hw hK hc i pins s σ H E I hf st hg
    subst hP hw hK
    obtain ⟨hz, hTI, ⟨x0, y0, hTO⟩, h1, h2⟩ := st
    obtain ⟨vs, ws, x, y, hqx, hqy, hx, hy⟩ := hg
    obtain ⟨fp1, P1, St1, D1, st1, m1, s1, rel1, own1⟩ := draw_at (I.ok.hd hc) I hqx h1 (hf i1 (by simp))
    obtain ⟨fp2, P2, St2, D2, st2, m2, s2, rel2, own2⟩ := draw_at (I.ok.hd hc) I hqy h2 (hf i2 (by simp))
    have hzl : z < s.heap.objs.size := Heap.lt_size hz
    refine wpAny_pyNext_zipD2_item (sepOf hf m1 m2 s1 s2) D1 D2 hz hTI hTO st1 st2 (List.getElem?_eq_some_iff.mp hx).1 (List.getElem?_eq_some_iff.mp hy).1 fun u1 u2 h' tk p1 p2 z' TO' t1 t2 hT hsz hk => ?_
    obtain ⟨x', hx', ru1⟩ := rel1 i u1 p1
    rw [hx] at hx'; cases hx'
    obtain ⟨y', hy', ru2⟩ := rel2 i u2 p2
    rw [hy] at hy'; cases hy'
    refine ⟨_, rfl, wpAny_letOwnedTupleGo_zip (s := { s with heap := h', toks := tk }) z' fun h'' z'' sb => ?_⟩
    have hT2 : h''.get? s.heap.objs.size = some { cls := .type "tuple", data := .seq #[u1, u2] } := (sb.2 _ (Nat.ne_of_gt hzl)).trans hT
    have new : ObjOk X.prog X.w (upd H s.heap.objs.size (.tup [x, y])) h'' s.heap.objs.size (.tup [x, y]) :=
      ⟨by show 2 ≤ sizeLine; decide, [u1, u2], .cons ru1 (.cons ru2 .nil), ⟨_, hT2, rfl, _, rfl⟩⟩
    have I1 : Inv X pins σ (upd H s.heap.objs.size (.tup [x, y])) { s with heap := h'', toks := tk } :=
      I.turnedNew (t' := tk) (ch := [z, TI, TO, i1, i2]) (fun c o hb q => (sb.2 c (fun q' => hb (by simp [q']))).trans (hk c o (fun q' => hb (by simp [q'])) (fun q' => hb (by simp [q'])) (fun q' => hb (by simp [q'])) (fun q' => hb (by simp [q'])) q)) hf (Nat.le_refl _) new
    refine ⟨.ref s.heap.objs.size, _, I1, rfl, ⟨_, x, y, rfl, I.hok.fresh (Nat.le_refl _), rfl, fun l hl => by rw [hl.inj I hqx]; exact hx, fun l hl => by rw [hl.inj I hqy]; exact hy⟩, ⟨z'', ?_, ⟨u1, u2, ?_⟩, ?_, ?_⟩, fun c hcm => ?_⟩
    · exact (sb.2 _ (Ne.symm d1)).trans (hk _ _ (Ne.symm d1) d5 d6 d7 hTI)
    · exact (sb.2 _ (Ne.symm d2)).trans TO'
    · exact (own1 _ _ t1).at fun o q => (sb.2 _ (Ne.symm d3)).trans q
    · exact (own2 _ _ t2).at fun o q => (sb.2 _ (Ne.symm d4)).trans q
    · have hlt : c < s.heap.objs.size := by
        have e' : c = z ∨ c = TI ∨ c = TO ∨ c = i1 ∨ c = i2 := by simpa using hcm
        rcases e' with q | q | q | q | q
        · rw [q]; exact hzl
        · rw [q]; exact Heap.lt_size hTI
        · rw [q]; exact Heap.lt_size hTO
        · rw [q]; obtain ⟨_, e1, _⟩ := h1.obj; exact Heap.lt_size e1
        · rw [q]; obtain ⟨_, e2, _⟩ := h2.obj; exact Heap.lt_size e2
      rw [upd_ne (Nat.ne_of_lt hlt)]
      exact (hf c hcm).1
  · intro X hP hw hK hc i pins s σ H E I hf st hg
    subst hP hw hK
    obtain ⟨hz, hTI, ⟨x0, y0, hTO⟩, h1, h2⟩ := st
    obtain ⟨vs, ws, hqx, hqy, hend⟩ := hg
    obtain ⟨fp1, P1, St1, D1, st1, m1, s1, rel1, own1⟩ := draw_at (I.ok.hd hc) I hqx h1 (hf i1 (by simp))
    obtain ⟨fp2, P2, St2, D2, st2, m2, s2, rel2, own2⟩ := draw_at (I.ok.hd hc) I hqy h2 (hf i2 (by simp))
    exact wpAny_pyNext_zipD2_end (sepOf hf m1 m2 s1 s2) D1 D2 hz hTI hTO st1 st2 (by omega) (by omega) (by omega) fun h' tk hk => ⟨rfl, I.turnedL (t' := tk) (ch := [z, TI, TO, i1, i2]) (fun c o hb q =>
      hk c o (fun q' => hb (by simp [q'])) (fun q' => hb (by simp [q'])) (fun q' => hb (by simp [q'])) (fun q' => hb (by simp [q'])) q) hf⟩
end Dn
set_option Elab.async false
set_option linter.all false
set_option maxRecDepth 100000
set_option maxHeartbeats 2000000
namespace Dn
open PySem PySem.Spec PyProof.Rows L2
/-! ### the three ways to walk -/
structure GoodK (K : PySem.W.Frag) (k : Sk) (J : It) : Prop where
  go : ∀ i H, (∃ vs x, Cont K H k vs ∧ vs[i]? = some x) → J.go i H
  stop : ∀ i H, (∃ vs, Cont K H k vs ∧ i = vs.length) → J.stop i H
  yld : ∀ i H x H', J.yld i H x H' → H' = H ∧ ∀ vs, Cont K H k vs → vs[i]? = some x
section
variable {X : Cx} {tg e e2 e3 : Expr} {te : TE} {ta : TA}
def iAny (K : PySem.W.Frag) (te : TE) : TI := fun σ H R => te σ H fun x H1 => ∃ k vs, x = k.v ∧ Cont K H1 k vs ∧ ∀ J, GoodK K k J → R J H1
theorem pi_any (he : PE X e te) : PI X tg e (iAny X.K te) := by
  refine ⟨fun pins s σ H R I h => ?_⟩
  refine thn (he.run pins s σ H _ I h) fun u s1 ⟨x, H1, I1, r1, k, vs, ex, hc, q⟩ => ?_
  subst ex
  obtain ⟨o, Hc, B, h1, own⟩ := begin_of I1 hc r1
  refine B.iter _ _ _ _ s1 _ h1 ?_
  obtain ⟨J, j1, j2, j3, T⟩ := itk_turn (P := X.prog) (w := X.w) (K := X.K) (tg := tg) k s1.heap.objs.size
  refine ⟨s1.heap.objs.size, [s1.heap.objs.size], _, J, H1, rfl, I1.kept (t' := s1.toks) fun b o e => Heap.get?_push_of_some _ e, T, own _ _ (Heap.get?_push_size _ B.free), fun b hb => ?_, q J ⟨j1, j2, j3⟩⟩
  have e : b = s1.heap.objs.size := by simpa using hb
  subst e
  exact I1.fpOk (Nat.le_refl _) (I1.hok.fresh (Nat.le_refl _))
def iEnumK (K : PySem.W.Frag) (ta : TA) : TI := fun σ H R => ta σ H fun vs H1 => ∃ k ws, vs = [k.v] ∧ Cont K H1 k ws ∧ R (ItE K k) H1
end
set_option maxHeartbeats 1000000 in
theorem meets_enumerate_new1 {v : Value} {o : Obj} {H : Heap → Prop} (B : Begins v o H) :
    Meets (Builtin.«enumerate.__new__» ⟨[.type "enumerate", v], []⟩) (fun _ R s => H s.heap ∧
      R (.ok (.ret (.ref (s.heap.push o).objs.size))) { s with heap := (s.heap.push o).push { cls := .type "enumerate", data := .fields #[.none, .bool false, .ref s.heap.objs.size, rawInt 0, .none, .none] } }) :=
  .of_wp fun prog w A R s h => by
    obtain ⟨hp, g, d, tk, os⟩ := s; obtain ⟨h1, h⟩ := h
    have hsub := sub_enumerate
    have q1 : ∀ {A' : Around} {E : Value → Shared → Prop} {Q : Value → Shared → Prop}, Q (.ref hp.objs.size) ⟨hp.push o, g, d, tk, os⟩ → wpAny (model prog w) A' (pyIter v) Q E ⟨hp, g, d, tk, os⟩ :=
      fun q => B.iter prog w _ _ ⟨hp, g, d, tk, os⟩ _ h1 q
    wp_walk using q1
    refine wpAny_stack_any fun st => wpAny_pure ?_
    split
    · rename_i c _ _ _ _ _
      cases (c == Value.type "enumerate")
      · wp_walk using q1
        exact ⟨_, rfl, h⟩
      · wp_walk using q1
        exact ⟨_, rfl, h⟩
    · wp_walk using q1
      exact ⟨_, rfl, h⟩
section
variable {X : Cx} {tg e e2 e3 : Expr} {te : TE} {ta : TA}
theorem enum_begins1 {prog : Program} {w : World} {A : Around} {E : Value → Shared → Prop} {s : Shared} {v : Value} {o : Obj} {H : Heap → Prop} {Q : Value → Shared → Prop} (B : Begins v o H) (h1 : H s.heap)
    (h : ∀ h', IsEnum h' (s.heap.objs.size + 1) s.heap.objs.size 0 .none → h'.get? s.heap.objs.size = some o → h'.objs.size = s.heap.objs.size + 2 →
      (∀ b o, s.heap.get? b = some o → h'.get? b = some o) → Q (.ref (s.heap.objs.size + 1)) { s with heap := h' }) :
    wpAny (model prog w) A (call (.type "enumerate") [v]) Q E s := by
  refine callType_new F.called_enumerate (by decide) (F.typeCall_enumerate_1 _) (F.newCall_enumerate_1 _) (fun obj => F.args_object_init_2 obj _) F.entry_enumerate_new
    (meets_enumerate_new1 B) ⟨h1, ?_⟩
  have hz : (s.heap.push o).objs.size = s.heap.objs.size + 1 := Heap.size_push ..
  show _ ∧ _
  rw [hz]
  have he : IsEnum ((s.heap.push o).push { cls := .type "enumerate", data := .fields #[.none, .bool false, .ref s.heap.objs.size, rawInt 0, .none, .none] }) (s.heap.objs.size + 1) s.heap.objs.size 0 .none := by
    have := Heap.get?_push_size (s.heap.push o) (o := { cls := .type "enumerate", data := .fields #[.none, .bool false, .ref s.heap.objs.size, rawInt 0, .none, .none] }) rfl
    rw [hz] at this; exact this
  exact ⟨⟨_, he, rfl⟩, h _ he (Heap.get?_push_of_some _ (Heap.get?_push_size _ B.free)) (by rw [Heap.size_push, hz]) fun b o x => Heap.get?_push_of_some _ (Heap.get?_push_of_some _ x)⟩
theorem pi_enumK {p pos tpos : Pos} {elts : List Expr} {kk : Nat} (hm : X.mg "enumerate" = none) (ha : PA X [e] ta) (hg : Gl X "enumerate" := by rfl) (hs : starEach [e] X.env = [(false, eval e X.env)] := by rfl) :
    PI X (.Tuple elts kk tpos) (.Call (.Name "enumerate" p) [e] [] pos) (iEnumK X.K ta) := by
  refine ⟨fun pins s σ H R I h => ?_⟩
  refine Call_ (ld_blt I hg hm boot_enumerate (PyProof.Rows.callWith_type1 (thn (ha.run pos pins s σ H _ I h) fun us s1 ⟨vs, H1, I1, r1, k, ws, ex, hc, q⟩ => ?_) hs rfl))
  subst ex
  obtain ⟨u, rfl, ru⟩ := vals1 r1
  obtain ⟨o, Hc, B, h1, own⟩ := begin_of I1 hc ru
  refine enum_begins1 B h1 fun h' he hit hsz hk => wpAny_pyIter_enum he ?_
  have I2 : Inv X pins σ H1 { s1 with heap := h' } := I1.kept (t' := s1.toks) hk
  refine ⟨s1.heap.objs.size + 1, [s1.heap.objs.size + 1, s1.heap.objs.size], _, _, H1, rfl, I2, turn_enumK k (s1.heap.objs.size + 1) s1.heap.objs.size, ⟨⟨.none, he⟩, own _ _ hit, Nat.succ_ne_self _⟩, fun b hb => ?_, q⟩
  have e' : b = s1.heap.objs.size + 1 ∨ b = s1.heap.objs.size := by simpa using hb
  have hle : s1.heap.objs.size ≤ b := by
    rcases e' with z | z
    · rw [z]; exact Nat.le_add_right _ _
    · rw [z]; exact Nat.le_refl _
  exact I1.fpOk hle (I1.hok.fresh hle)
def iZipK (K : PySem.W.Frag) (ta : TA) : TI := fun σ H R => ta σ H fun vs H1 => ∃ k1 k2 ws1 ws2, vs = [k1.v, k2.v] ∧ Cont K H1 k1 ws1 ∧ Cont K H1 k2 ws2 ∧ R (ItZ K k1 k2) H1
theorem pi_zipK {p pos tpos : Pos} {elts : List Expr} {kk : Nat} (hm : X.mg "zip" = none) (ha : PA X [e, e2] ta) (hg : Gl X "zip" := by rfl)
    (hs : starEach [e, e2] X.env = (false, eval e X.env) :: starEach [e2] X.env := by rfl) (hpl : (backTo pos (starEach [e2] X.env)).any (·.1) = false := by rfl) :
    PI X (.Tuple elts kk tpos) (.Call (.Name "zip" p) [e, e2] [] pos) (iZipK X.K ta) := by
  refine ⟨fun pins s σ H R I h => ?_⟩
  refine Call_ (ld_blt I hg hm PyProof.Rows.boot_zip (PyProof.Rows.callWith_type1 (thn (ha.run pos pins s σ H _ I h) fun us s1 ⟨vs, H1, I1, r1, k1, k2, ws1, ws2, ex, hc1, hc2, q⟩ => ?_) hs hpl))
  subst ex
  obtain ⟨u1, u2, rfl, ru1, ru2⟩ := vals2 r1
  obtain ⟨o1, H1c, B1, h1, own1⟩ := begin_of I1 hc1 ru1
  obtain ⟨o2, H2c, B2, h2, own2⟩ := begin_of I1 hc2 ru2
  refine zip_begins2 B1 B2 h1 h2 fun h' hz hTI hTO g1 g2 hsz hk => wpAny_pyIter_zip hz ?_
  have I2 : Inv X pins σ H1 { s1 with heap := h' } := I1.kept (t' := s1.toks) hk
  refine ⟨s1.heap.objs.size + 4, [s1.heap.objs.size + 4, s1.heap.objs.size + 2, s1.heap.objs.size + 3, s1.heap.objs.size, s1.heap.objs.size + 1], _, _, H1, rfl, I2, turn_zipK k1 k2 (by simp), ⟨hz, hTI, ⟨_, _, hTO⟩, own1 _ _ g1, own2 _ _ g2⟩, fun b hb => ?_, q⟩
  have e' : b = s1.heap.objs.size + 4 ∨ b = s1.heap.objs.size + 2 ∨ b = s1.heap.objs.size + 3 ∨ b = s1.heap.objs.size ∨ b = s1.heap.objs.size + 1 := by simpa using hb
  have hle : s1.heap.objs.size ≤ b := by rcases e' with z | z | z | z | z <;> rw [z] <;> first | exact Nat.le_add_right _ _ | exact Nat.le_refl _
  exact I1.fpOk hle (I1.hok.fresh hle)
end
end Dn
set_option Elab.async false
set_option linter.all false
set_option maxRecDepth 100000
set_option maxHeartbeats 2000000
namespace Dn
open PySem PySem.Spec PyProof.Rows L2
/-! ### iterators over frozen things -/
def itemsF : D → Option (List D)
  | .lst ds => some ds
  | .tup ds => some ds
  | .scr ns => some (ns.map D.int)
  | .str x => some (x.map fun c => .str [c])
  | _ => none
def CoF (K : PySem.W.Frag) (W : Wd) : Sk → List V → Prop
  | .lst a, vs => RdF W a (.lst vs) ∨ KLst K a vs
  | .tup a, vs => TupF W a vs
  | .txt x, vs => vs = x.cps.toList.map fun c => V.str ⟨#[c]⟩
def ItR (K : PySem.W.Frag) (mg : Str → Option Value) (W : Wd) (ds : List D) (J : It) : Prop :=
  ∀ W' m, Ext W W' → Sim K mg W' m → ∀ i : Nat, (∀ d, ds[i]? = some d → J.go i W'.H ∧ ∀ x H', J.yld i W'.H x H' → ∃ W2, W2.H = H' ∧ Ext W' W2 ∧ Sim K mg W2 m ∧ DR K mg W2 d x) ∧ (i = ds.length → J.stop i W'.H)
abbrev I2 (X : Cx) (Wx : WX) (tg it : Expr) (t : Dl → Mu → Rs (List D)) : Prop := PI X tg it (T2G X.K X.mg (fun W (ds : List D) (J : It) => ItR X.K X.mg W ds J) Wx t)
section
variable {K : PySem.W.Frag} {mg : Str → Option Value} {W W' : Wd} {m : Mu}
theorem CoF.mono (k : Keep W W') {s : Sk} {vs : List V} (h : CoF K W s vs) : CoF K W' s vs := by
  cases s with
  | lst a => exact h.imp k.rdf id
  | tup a => exact k.st _ _ h.1 h.2
  | txt x => exact h
theorem CoF.cont {s : Sk} {vs : List V} (h : CoF K W s vs) : Cont K W.H s vs := by
  cases s with
  | lst a => exact h.imp (fun x => x.1) id
  | tup a => exact .inl (.inl h.1)
  | txt x => exact h
theorem sk_of {d : D} {v : V} {ds : List D} (r : DR K mg W d v) (h : itemsF d = some ds) : ∃ k vs, v = k.v ∧ CoF K W k vs ∧ DRs K mg W ds vs := by
  cases d with
  | lst xs => simp only [DR] at r; obtain ⟨a, vs, rfl, h1, h2, h3⟩ := r; cases h; exact ⟨.lst a, vs, rfl, .inl ⟨.inl h1, h2⟩, h3⟩
  | tup xs => simp only [DR] at r; obtain ⟨a, vs, rfl, h1, h3⟩ := r; cases h; exact ⟨.tup a, vs, rfl, h1, h3⟩
  | scr ns => simp only [DR] at r; obtain ⟨a, rfl, h1⟩ := r; cases h; exact ⟨.lst a, _, rfl, h1, DRs.ints _⟩
  | str x =>
    simp only [DR] at r
    cases h
    refine ⟨.txt (toS x), _, r, rfl, ?_⟩
    rw [toS_toList]
    have := DRs.strs (K := K) (mg := mg) (W := W) (x.map fun c => [c])
    simpa [List.map_map, Function.comp_def, toS] using this
  | _ => cases h
end
def it2 (ta : Dl → Mu → Rs D) : Dl → Mu → Rs (List D) := fun δ m => (ta δ m).bind fun x m => match itemsF x with | some ds => .ok ds m | none => .bad
def intsFrom (lo : Int) (n : Nat) : List D := (List.range n).map fun i => D.int (lo + (i : Nat))
def small62 (i : Int) : Bool := decide (-(2 ^ 62) ≤ i ∧ i < 2 ^ 62)
def rg1D (ds : List D) (m : Mu) : Rs (List D) := match ds with
  | [.int j] => if small62 j then .ok (intsFrom 0 j.toNat) m else .bad
  | _ => .bad
def rg2D (ds : List D) (m : Mu) : Rs (List D) := match ds with
  | [.int i, .int j] => if small62 i && small62 j then .ok (intsFrom i (j - i).toNat) m else .bad
  | _ => .bad
/-- down by ones -/
def rg3D (ds : List D) (m : Mu) : Rs (List D) := match ds with
  | [.int i, .int j, .int (-1)] => if small62 i && small62 j then .ok ((List.range (i - j).toNat).map fun k => D.int (i - (k : Nat))) m else .bad
  | _ => .bad
def enumD (ds : List D) (m : Mu) : Rs (List D) := match ds with
  | [x] => match itemsF x with | some xs => .ok (xs.zipIdx.map fun p => .tup [.int (p.2 : Nat), p.1]) m | none => .bad
  | _ => .bad
def zipD (ds : List D) (m : Mu) : Rs (List D) := match ds with
  | [x, y] => match itemsF x, itemsF y with | some xs, some ys => .ok (List.zipWith (fun a b => .tup [a, b]) xs ys) m | _, _ => .bad
  | _ => .bad
section
variable {X : Cx} {Wx : WX} {tg a b c e e1 : Expr} {ta : Dl → Mu → Rs D} {tr : Dl → Mu → Rs (List D)} {p pos tpos : Pos} {elts : List Expr} {kk : Nat}
def on2 {α : Type} (f : List D → Mu → Rs α) (tr : Dl → Mu → Rs (List D)) : Dl → Mu → Rs α := fun δ m => (tr δ m).bind f
theorem i2_any (he : E2 X Wx e ta) : I2 X Wx tg e (it2 ta) :=
  PI.wk (pi_any he) fun σ H R ⟨W, δ, m, e, S, N, h⟩ => ⟨W, δ, m, e, S, N, (Post.bind h).mono fun v H1 ⟨W1, m1, x, e1, x1, S1, r1, h1⟩ => by
    subst e1
    cases hq : itemsF x with
    | none => rw [hq] at h1; exact h1.elim
    | some ds =>
      rw [hq] at h1
      obtain ⟨k, vs, ev, hc, rs⟩ := sk_of r1 hq
      refine ⟨k, vs, ev, hc.cont, fun J g => h1 J W1 Ext.refl S1 fun W' m' x' S' i => ⟨fun d hd => ?_, fun hi => g.stop i _ ⟨vs, (hc.mono (x'.keep S1)).cont, by rw [hi, rs.len]⟩⟩⟩
      obtain ⟨u, hu, ru⟩ := (rs.mono (x'.keep S1)).get hd
      refine ⟨g.go i _ ⟨vs, u, (hc.mono (x'.keep S1)).cont, hu⟩, fun y H' hy => ?_⟩
      obtain ⟨e3, q⟩ := g.yld i _ y H' hy
      have := q vs (hc.mono (x'.keep S1)).cont
      rw [hu] at this; cases this
      exact ⟨W', e3.symm, Ext.refl, S', ru⟩⟩
theorem itr_range {K : PySem.W.Frag} {mg : Str → Option Value} {W : Wd} (lo : Int) (n : Nat) : ItR K mg W (intsFrom lo n) (Itr lo n) := fun W' m x S i => by
  refine ⟨fun d hd => ?_, fun hi => ?_⟩
  · have hl : i < n := by
      have := (List.getElem?_eq_some_iff.mp hd).1
      simpa [intsFrom] using this
    refine ⟨hl, fun y H' hy => ⟨W', hy.1.symm, Ext.refl, S, ?_⟩⟩
    have e : d = .int (lo + (i : Nat)) := by
      simp only [intsFrom, List.getElem?_map, List.getElem?_range hl, Option.map_some, Option.some.injEq] at hd
      exact hd.symm
    rw [e, hy.2]
    simp only [DR]
  · show n ≤ i
    rw [hi]; simp [intsFrom]
theorem i2_range1 (hm : X.mg "range" = none) (ha : A2 X Wx [a] tr) (hg : Gl X "range" := by rfl) (hs : starEach [a] X.env = [(false, eval a X.env)] := by rfl) : I2 X Wx tg (.Call (.Name "range" p) [a] [] pos) (on2 rg1D tr) :=
  PI.wk (pi_range1 hg hm ha hs) fun σ H R ⟨W, δ, m, e, S, N, h⟩ => ⟨W, δ, m, e, S, N, (Post.bind h).mono fun v H1 ⟨W1, m1, ds, e1, x1, S1, r1, h1⟩ => by
    subst e1
    unfold rg1D at h1
    split at h1
    · rename_i j
      split at h1
      · rename_i hj
        have := DRs.of_ints (ns := [j]) r1
        simp only [small62, decide_eq_true_eq] at hj
        exact ⟨j, this, hj.1, hj.2, h1 _ W1 Ext.refl S1 (itr_range 0 j.toNat)⟩
      · exact h1.elim
    · exact h1.elim⟩
theorem i2_range2 (hm : X.mg "range" = none) (ha : A2 X Wx [a, b] tr) (hg : Gl X "range" := by rfl) (hs : starEach [a, b] X.env = [(false, eval a X.env), (false, eval b X.env)] := by rfl) (hs2 : starEach [b] X.env = [(false, eval b X.env)] := by rfl) :
    I2 X Wx tg (.Call (.Name "range" p) [a, b] [] pos) (on2 rg2D tr) :=
  PI.wk (pi_range2 hg hm ha hs hs2) fun σ H R ⟨W, δ, m, e, S, N, h⟩ => ⟨W, δ, m, e, S, N, (Post.bind h).mono fun v H1 ⟨W1, m1, ds, e1, x1, S1, r1, h1⟩ => by
    subst e1
    unfold rg2D at h1
    split at h1
    · rename_i i j
      split at h1
      · rename_i hj
        have := DRs.of_ints (ns := [i, j]) r1
        simp only [small62, Bool.and_eq_true, decide_eq_true_eq] at hj
        exact ⟨i, j, this, ⟨hj.1.1, hj.1.2, hj.2.1, hj.2.2⟩, h1 _ W1 Ext.refl S1 (itr_range i (j - i).toNat)⟩
      · exact h1.elim
    · exact h1.elim⟩
theorem itr_down {K : PySem.W.Frag} {mg : Str → Option Value} {W : Wd} (lo : Int) (n : Nat) : ItR K mg W ((List.range n).map fun k => D.int (lo - (k : Nat))) (Itc lo (-1) n) := fun W' m x S i => by
  refine ⟨fun d hd => ?_, fun hi => ?_⟩
  · have hl : i < n := by
      have := (List.getElem?_eq_some_iff.mp hd).1
      simpa using this
    refine ⟨hl, fun y H' hy => ⟨W', hy.1.symm, Ext.refl, S, ?_⟩⟩
    have e : d = .int (lo - (i : Nat)) := by
      simp only [List.getElem?_map, List.getElem?_range hl, Option.map_some, Option.some.injEq] at hd
      exact hd.symm
    rw [e, hy.2]
    simp only [DR]
    rw [show lo + (i : Int) * -1 = lo - (i : Int) by omega]
  · show n ≤ i
    rw [hi]; simp
theorem i2_range3 (hm : X.mg "range" = none) (ha : A2 X Wx [a, b, c] tr) (hg : Gl X "range" := by rfl) (hs : starEach [a, b, c] X.env = (false, eval a X.env) :: starEach [b, c] X.env := by rfl)
    (hpl : (backTo pos (starEach [b, c] X.env)).any (·.1) = false := by rfl) : I2 X Wx tg (.Call (.Name "range" p) [a, b, c] [] pos) (on2 rg3D tr) :=
  PI.wk (pi_range3 hg hm ha hs hpl) fun σ H R ⟨W, δ, m, e, S, N, h⟩ => ⟨W, δ, m, e, S, N, (Post.bind h).mono fun v H1 ⟨W1, m1, ds, e1, x1, S1, r1, h1⟩ => by
    subst e1
    unfold rg3D at h1
    split at h1
    · rename_i i j
      split at h1
      · rename_i hj
        have := DRs.of_ints (ns := [i, j, -1]) r1
        simp only [small62, Bool.and_eq_true, decide_eq_true_eq] at hj
        exact ⟨i, j, -1, _, this, RgC.neg hj.1.1 hj.1.2 hj.2.1 hj.2.2, h1 _ W1 Ext.refl S1 (itr_down i (i - j).toNat)⟩
      · exact h1.elim
    · exact h1.elim⟩
theorem i2_enum (hm : X.mg "enumerate" = none) (ha : A2 X Wx [a] tr) (hg : Gl X "enumerate" := by rfl) (hs : starEach [a] X.env = [(false, eval a X.env)] := by rfl) : I2 X Wx (.Tuple elts kk tpos) (.Call (.Name "enumerate" p) [a] [] pos) (on2 enumD tr) :=
  PI.wk (pi_enumK hm ha hg hs) fun σ H R ⟨W, δ, m, e, S, N, h⟩ => ⟨W, δ, m, e, S, N, (Post.bind h).mono fun v H1 ⟨W1, m1, ds, e1, x1, S1, r1, h1⟩ => by
    subst e1
    unfold enumD at h1
    split at h1
    · rename_i x
      cases hq : itemsF x with
      | none => rw [hq] at h1; exact h1.elim
      | some xs =>
        rw [hq] at h1
        simp only [DRs] at r1
        obtain ⟨v0, _, rfl, r0, rfl⟩ := r1
        obtain ⟨k, vs, rfl, hc, rs⟩ := sk_of r0 hq
        refine ⟨k, vs, rfl, hc.cont, h1 _ W1 Ext.refl S1 fun W' m' x' S' i => ⟨fun d hd => ?_, fun hi => ⟨vs, (hc.mono (x'.keep S1)).cont, by rw [hi, rs.len]; simp⟩⟩⟩
        simp only [List.getElem?_map, List.getElem?_zipIdx, Option.map_map, Option.map_eq_some_iff] at hd
        obtain ⟨y, hy, rfl⟩ := hd
        obtain ⟨u, hu, ru⟩ := (rs.mono (x'.keep S1)).get hy
        refine ⟨⟨vs, u, (hc.mono (x'.keep S1)).cont, hu⟩, fun z H' ⟨T, u', ez, hT, eH, q⟩ => ?_⟩
        have := q vs (hc.mono (x'.keep S1)).cont
        rw [hu] at this; cases this
        subst ez eH
        refine ⟨W'.new T _, rfl, Ext.new S' hT, S'.new hT, ?_⟩
        simp only [Function.comp_apply, DR]
        refine ⟨T, _, rfl, ⟨new_at.1, new_at.2⟩, DRs.cons (by simp only [DR, Nat.zero_add]) (DRs.one (ru.mono (Keep.new hT)))⟩
    · exact h1.elim⟩
theorem i2_zip (hm : X.mg "zip" = none) (ha : A2 X Wx [a, b] tr) (hg : Gl X "zip" := by rfl) (hs : starEach [a, b] X.env = (false, eval a X.env) :: starEach [b] X.env := by rfl) (hpl : (backTo pos (starEach [b] X.env)).any (·.1) = false := by rfl) :
    I2 X Wx (.Tuple elts kk tpos) (.Call (.Name "zip" p) [a, b] [] pos) (on2 zipD tr) :=
  PI.wk (pi_zipK hm ha hg hs hpl) fun σ H R ⟨W, δ, m, e, S, N, h⟩ => ⟨W, δ, m, e, S, N, (Post.bind h).mono fun v H1 ⟨W1, m1, ds, e1, x1, S1, r1, h1⟩ => by
    subst e1
    unfold zipD at h1
    split at h1
    · rename_i x y
      split at h1
      · rename_i xs ys hq1 hq2
        simp only [DRs] at r1
        obtain ⟨v1, _, rfl, r1, v2, _, rfl, r2, rfl⟩ := r1
        obtain ⟨k1, vs, rfl, hc1, rs1⟩ := sk_of r1 hq1
        obtain ⟨k2, ws, rfl, hc2, rs2⟩ := sk_of r2 hq2
        refine ⟨k1, k2, vs, ws, rfl, hc1.cont, hc2.cont, h1 _ W1 Ext.refl S1 fun W' m' x' S' i => ⟨fun d hd => ?_, fun hi => ⟨vs, ws, (hc1.mono (x'.keep S1)).cont, (hc2.mono (x'.keep S1)).cont, by rw [hi, rs1.len, rs2.len]; simp⟩⟩⟩
        rw [List.getElem?_zipWith] at hd
        split at hd
        · rename_i y1 y2 hy1 hy2
          cases hd
          obtain ⟨u1, hu1, ru1⟩ := (rs1.mono (x'.keep S1)).get hy1
          obtain ⟨u2, hu2, ru2⟩ := (rs2.mono (x'.keep S1)).get hy2
          refine ⟨⟨vs, ws, u1, u2, (hc1.mono (x'.keep S1)).cont, (hc2.mono (x'.keep S1)).cont, hu1, hu2⟩, fun z H' ⟨T, a1, a2, ez, hT, eH, q1, q2⟩ => ?_⟩
          have z1 := q1 vs (hc1.mono (x'.keep S1)).cont
          rw [hu1] at z1; cases z1
          have z2 := q2 ws (hc2.mono (x'.keep S1)).cont
          rw [hu2] at z2; cases z2
          subst ez eH
          refine ⟨W'.new T _, rfl, Ext.new S' hT, S'.new hT, ?_⟩
          simp only [DR]
          exact ⟨T, _, rfl, ⟨new_at.1, new_at.2⟩, DRs.cons (ru1.mono (Keep.new hT)) (DRs.one (ru2.mono (Keep.new hT)))⟩
        · cases hd
      · exact h1.elim
    · exact h1.elim⟩
end
/-! ### statements -/
section
variable (K : PySem.W.Frag) (mg : Str → Option Value)
def PostS (Wx : WX) (W : Wd) (E : Ends) : Ro → Prop
  | .next δ m => ∀ σ W', Ext W W' → Sim K mg W' m → En K mg W' σ δ → E.nx σ W'.H
  | .ret d m => ∀ v W', Ext W W' → Sim K mg W' m → DR K mg W' d v → E.rt v W'.H
  | .brk δ m => ∀ σ W', Ext W W' → Sim K mg W' m → En K mg W' σ δ → E.bk σ W'.H
  | .cnt δ m => ∀ σ W', Ext W W' → Sim K mg W' m → En K mg W' σ δ → E.ct σ W'.H
  | .exc c ns ds δ m => ∀ σ cls d W', Ext W W' → Sim K mg W' m → En K mg W' σ δ → ER K mg W' c ns ds cls d → Wx cls d σ W'.H
  | .bad => False
def T2S (Wx : WX) (t : Dl → Mu → Ro) : TS := fun E σ H => ∃ W δ m, W.H = H ∧ Sim K mg W m ∧ En K mg W σ δ ∧ PostS K mg Wx W E (t δ m)
end
abbrev S2 (X : Cx) (Wx : WX) (st : Stmt) (t : Dl → Mu → Ro) : Prop := PS X st (T2S X.K X.mg Wx t)
abbrev SS2 (X : Cx) (Wx : WX) (st : List Stmt) (t : Dl → Mu → Ro) : Prop := PSs X st (T2S X.K X.mg Wx t)
section
variable {K : PySem.W.Frag} {mg : Str → Option Value} {W W' W1 : Wd} {m : Mu}
theorem PostS.ext {Wx : WX} {E : Ends} {r : Ro} (h : PostS K mg Wx W E r) (x : Ext W W1) : PostS K mg Wx W1 E r := by
  cases r with
  | next δ m => exact fun σ W' e => h σ W' (x.trans e)
  | ret d m => exact fun σ W' e => h σ W' (x.trans e)
  | brk δ m => exact fun σ W' e => h σ W' (x.trans e)
  | cnt δ m => exact fun σ W' e => h σ W' (x.trans e)
  | exc c ns ds δ m => exact fun σ cls d W' e => h σ cls d W' (x.trans e)
  | bad => exact h
/-- an expression first -/
def Rs.thn {α : Type} (r : Rs α) (δ : Dl) (k : α → Mu → Ro) : Ro := match r with
  | .ok b m => k b m
  | .exc c ns ds m => .exc c ns ds δ m
  | .bad => .bad
@[simp] theorem Rs.thn_ok {α : Type} (b : α) (m : Mu) (δ : Dl) (k : α → Mu → Ro) : (Rs.ok b m).thn δ k = k b m := rfl
@[simp] theorem Rs.thn_exc {α : Type} (c : String) (ns : List String) (vs : List D) (m : Mu) (δ : Dl) (k : α → Mu → Ro) : (Rs.exc c ns vs m : Rs α).thn δ k = .exc c ns vs δ m := rfl
@[simp] theorem Rs.thn_bad {α : Type} (δ : Dl) (k : α → Mu → Ro) : (Rs.bad : Rs α).thn δ k = .bad := rfl
theorem Post.thn {α β : Type} {R : Wd → β → α → Prop} {Wx : WX} {E : Ends} {r : Rs β} {σ : L2.St} {δ : Dl} {k : β → Mu → Ro} (S : Sim K mg W m) (N : En K mg W σ δ) (h : PostS K mg Wx W E (r.thn δ k)) :
    Post K mg R (fun c d H' => Wx c d σ H') W (fun v H => ∃ W1 m b, W1.H = H ∧ Ext W W1 ∧ Sim K mg W1 m ∧ En K mg W1 σ δ ∧ R W1 b v ∧ PostS K mg Wx W1 E (k b m)) r := by
  cases r with
  | ok b m' => exact fun v W' e S' r => ⟨W', m', b, rfl, e, S', N.mono (e.keep S), r, PostS.ext h e⟩
  | exc c ns ds m' => exact fun cls d W' e S' r => h σ cls d W' e S' (N.mono (e.keep S)) r
  | bad => exact h
theorem PostS.imp {Wx Wx' : WX} {E E' : Ends} {r : Ro} (h : PostS K mg Wx W E r) (h1 : ∀ σ H, E.nx σ H → E'.nx σ H) (h2 : ∀ v H, E.rt v H → E'.rt v H) (h3 : ∀ σ H, E.bk σ H → E'.bk σ H) (h4 : ∀ σ H, E.ct σ H → E'.ct σ H)
    (h5 : ∀ c d σ H, Wx c d σ H → Wx' c d σ H) : PostS K mg Wx' W E' r := by
  cases r with
  | next δ m => exact fun σ W' e S n => h1 _ _ (h σ W' e S n)
  | ret d m => exact fun v W' e S n => h2 _ _ (h v W' e S n)
  | brk δ m => exact fun σ W' e S n => h3 _ _ (h σ W' e S n)
  | cnt δ m => exact fun σ W' e S n => h4 _ _ (h σ W' e S n)
  | exc c ns ds δ m => exact fun σ cls d W' e S n r => h5 _ _ _ _ (h σ cls d W' e S n r)
  | bad => exact h
end
/-- one statement behind another -/
def Ro.seq (r : Ro) (u : Dl → Mu → Ro) : Ro := match r with
  | .next δ m => u δ m
  | r => r
@[simp] theorem Ro.seq_next (δ : Dl) (m : Mu) (u : Dl → Mu → Ro) : (Ro.next δ m).seq u = u δ m := rfl
@[simp] theorem Ro.seq_ret (d : D) (m : Mu) (u : Dl → Mu → Ro) : (Ro.ret d m).seq u = .ret d m := rfl
@[simp] theorem Ro.seq_exc (c : String) (ns : List String) (vs : List D) (δ : Dl) (m : Mu) (u : Dl → Mu → Ro) : (Ro.exc c ns vs δ m).seq u = .exc c ns vs δ m := rfl
@[simp] theorem Ro.seq_bad (u : Dl → Mu → Ro) : Ro.bad.seq u = .bad := rfl
@[simp] theorem Ro.seq_brk (δ : Dl) (m : Mu) (u : Dl → Mu → Ro) : (Ro.brk δ m).seq u = .brk δ m := rfl
@[simp] theorem Ro.seq_cnt (δ : Dl) (m : Mu) (u : Dl → Mu → Ro) : (Ro.cnt δ m).seq u = .cnt δ m := rfl
def nop2 : Dl → Mu → Ro := fun δ m => .next δ m
def seq2 (t u : Dl → Mu → Ro) : Dl → Mu → Ro := fun δ m => (t δ m).seq u
def expr2 (ta : Dl → Mu → Rs D) : Dl → Mu → Ro := fun δ m => (ta δ m).thn δ fun _ m => .next δ m
def ret2 (ta : Dl → Mu → Rs D) : Dl → Mu → Ro := fun δ m => (ta δ m).thn δ fun d m => .ret d m
def if2 (c : Dl → Mu → Rs Bool) (t u : Dl → Mu → Ro) : Dl → Mu → Ro := fun δ m => (c δ m).thn δ fun b m => if b = true then t δ m else u δ m
def never2 : Dl → Mu → Ro := fun _ _ => .bad
/-- targets -/
abbrev G2f := D → Dl → Mu → Rs Dl
def Off (ws : List Nat) (σ σ' : L2.St) : Prop := σ'.length = σ.length ∧ ∀ j : Nat, j ∉ ws → σ'[j]? = σ[j]?
def PostG (K : PySem.W.Frag) (mg : Str → Option Value) (ws : List Nat) (σ0 : L2.St) (W : Wd) (Q : L2.St → Hp → Prop) : Rs Dl → Prop
  | .ok δ m => ∀ σ W', Off ws σ0 σ → Ext W W' → Sim K mg W' m → En K mg W' σ δ → Q σ W'.H
  | _ => False
def T2Gt (K : PySem.W.Frag) (mg : Str → Option Value) (ws : List Nat) (g : G2f) : TG := fun v σ H Q => ∃ W d δ m, W.H = H ∧ Sim K mg W m ∧ En K mg W σ δ ∧ DR K mg W d v ∧ PostG K mg ws σ W Q (g d δ m)
abbrev G2 (X : Cx) (tg : Expr) (ws : List Nat) (g : G2f) : Prop := PG X tg (T2Gt X.K X.mg ws g)
def name2 (i : Nat) : G2f := fun d δ m => .ok (δ.set i (some d)) m
def asg2 (ta : Dl → Mu → Rs D) (g : G2f) : Dl → Mu → Ro := fun δ m => (ta δ m).thn δ fun d m => match g d δ m with
  | .ok δ m => .next δ m
  | _ => .bad
section
variable {X : Cx} {Wx : WX} {st : Stmt} {rest : List Stmt} {t u : Dl → Mu → Ro} {e : Expr} {ta : Dl → Mu → Rs D} {tc : Dl → Mu → Rs Bool} {pos : Pos}
theorem ss_nil : SS2 X Wx [] nop2 := PSs.wk pss_nil fun E σ H ⟨W, δ, m, e, S, N, h⟩ => by subst e; exact h σ W Ext.refl S N
theorem ss_cons (h1 : S2 X Wx st t) (h2 : SS2 X Wx rest u) : SS2 X Wx (st :: rest) (seq2 t u) :=
  PSs.wk (pss_cons h1 h2) fun E σ H ⟨W, δ, m, e, S, N, h⟩ => ⟨W, δ, m, e, S, N, by
    unfold seq2 at h
    cases ht : t δ m with
    | next δ' m' => rw [ht] at h; exact fun σ' W' x S' N' => ⟨W', δ', m', rfl, S', N', PostS.ext h x⟩
    | ret d m' => rw [ht] at h; exact h
    | brk δ' m' => rw [ht] at h; exact h
    | cnt δ' m' => rw [ht] at h; exact h
    | exc c ns ds δ' m' => rw [ht] at h; exact h
    | bad => rw [ht] at h; exact h⟩
theorem ss_one (h1 : S2 X Wx st t) : SS2 X Wx [st] t := pss_one h1
theorem s2_pass : S2 X Wx (.Pass pos) nop2 := PS.wk ps_pass fun E σ H ⟨W, δ, m, e, S, N, h⟩ => by subst e; exact h σ W Ext.refl S N
theorem s2_break : S2 X Wx (.Break pos) (fun δ m => .brk δ m) := PS.wk ps_break fun E σ H ⟨W, δ, m, e, S, N, h⟩ => by subst e; exact h σ W Ext.refl S N
theorem s2_continue : S2 X Wx (.Continue pos) (fun δ m => .cnt δ m) := PS.wk ps_continue fun E σ H ⟨W, δ, m, e, S, N, h⟩ => by subst e; exact h σ W Ext.refl S N
theorem s2_never : S2 X Wx st never2 := PS.wk ps_never fun E σ H ⟨W, δ, m, e, S, N, h⟩ => h
theorem s2_expr (he : E2 X Wx e ta) (hs : swapsWith e none pos.line X.env = pure false := by rfl) : S2 X Wx (.Expr e pos) (expr2 ta) :=
  PS.wk (ps_expr he hs) fun E σ H ⟨W, δ, m, e, S, N, h⟩ => ⟨W, δ, m, e, S, N, (Post.thn S N h).mono fun v H1 ⟨W1, m1, x, e1, x1, S1, N1, r1, h1⟩ => by subst e1; exact h1 σ W1 Ext.refl S1 N1⟩
theorem s2_ret (he : E2 X Wx e ta) : S2 X Wx (.Return (some e) pos) (ret2 ta) :=
  PS.wk (ps_ret he) fun E σ H ⟨W, δ, m, e, S, N, h⟩ => ⟨W, δ, m, e, S, N, (Post.thn S N h).mono fun v H1 ⟨W1, m1, x, e1, x1, S1, N1, r1, h1⟩ => by subst e1; exact h1 v W1 Ext.refl S1 r1⟩
theorem s2_if {c : Expr} {a b : List Stmt} (hc : C2 X Wx c tc) (ha : SS2 X Wx a t) (hb : SS2 X Wx b u) : S2 X Wx (.If c a b pos) (if2 tc t u) :=
  PS.wk (ps_if hc ha hb) fun E σ H ⟨W, δ, m, e, S, N, h⟩ => ⟨W, δ, m, e, S, N, (Post.thn S N h).mono fun v H1 ⟨W1, m1, x, e1, x1, S1, N1, r1, h1⟩ => by
    subst e1 r1
    cases v with
    | true => exact iteT ⟨W1, δ, m1, rfl, S1, N1, h1⟩
    | false => exact iteF ⟨W1, δ, m1, rfl, S1, N1, h1⟩⟩
theorem g2_name {i : Nat} {x : Str} (hN : X.N.Nodup) (hi : X.N[i]? = some x) (hx : Loc X.env.scope x) (hf : X.fn x = true ∨ X.env.scope.names.lookup x = some .local := by first | exact .inl rfl | exact .inr rfl) : G2 X (.Name x pos) [i] (name2 i) :=
  PG.wk (pg_name hN hi hx hf) fun v σ H Q ⟨W, d, δ, m, e, S, N, r, h⟩ => by
    subst e
    refine h _ W ⟨by simp, fun j hj => ?_⟩ Ext.refl S (N.set r)
    simp only [List.mem_singleton] at hj
    exact List.getElem?_set_ne (Ne.symm hj)
theorem asg_post {K : PySem.W.Frag} {mg : Str → Option Value} {W : Wd} {E : Ends} {g : G2f} {ws : List Nat} {σ : L2.St} {d : D} {δ : Dl} {m : Mu} (h : PostS K mg Wx W E (match g d δ m with | .ok δ m => .next δ m | _ => .bad)) : PostG K mg ws σ W E.nx (g d δ m) := by
  cases hg : g d δ m with
  | ok δ' m' => rw [hg] at h; exact fun σ1 W1 _ => h σ1 W1
  | exc c ns ds m' => rw [hg] at h; exact h.elim
  | bad => rw [hg] at h; exact h.elim
theorem s2_asg {tg : Expr} {ws : List Nat} {g : G2f} (he : E2 X Wx e ta) (hg : G2 X tg ws g) (hs : swapsWithSole [tg] e pos.line X.env = pure false := by rfl) (hw : swappedStores [tg] e X.env = pure none := by rfl)
    (h1 : (assignEach [tg] X.env).map (·.2) = [assign tg X.env] := by rfl) : S2 X Wx (.Assign [tg] e pos) (asg2 ta g) :=
  PS.wk (ps_asg he hg hs hw h1) fun E σ H ⟨W, δ, m, e, S, N, h⟩ => ⟨W, δ, m, e, S, N, (Post.thn S N h).mono fun v H1 ⟨W1, m1, x, e1, x1, S1, N1, r1, h1⟩ => ⟨W1, x, δ, m1, e1, S1, N1, r1, asg_post h1⟩⟩
/-- name = e -/
theorem s2_set {i : Nat} {x : Str} {pos' : Pos} (hN : X.N.Nodup) (hi : X.N[i]? = some x) (hx : Loc X.env.scope x) (he : E2 X Wx e ta) (hs : swapsWith e (some (.Name x pos')) pos.line X.env = pure false := by rfl)
    (hf : X.fn x = true ∨ X.env.scope.names.lookup x = some .local := by first | exact .inl rfl | exact .inr rfl) : S2 X Wx (.Assign [.Name x pos'] e pos) (asg2 ta (name2 i)) :=
  PS.wk (ps_set hN hi hx he hs hf) fun E σ H ⟨W, δ, m, e, S, N, h⟩ => ⟨W, δ, m, e, S, N, (Post.thn S N h).mono fun v H1 ⟨W1, m1, x, e1, x1, S1, N1, r1, h1⟩ => by subst e1; exact h1 _ W1 Ext.refl S1 (N1.set r1)⟩
end
end Dn
set_option Elab.async false
set_option linter.all false
set_option maxRecDepth 100000
set_option maxHeartbeats 2000000
namespace Dn
open PySem PySem.Spec PyProof.Rows L2
/-! ### loops -/
def for2 (g : G2f) (tb : Dl → Mu → Ro) : List D → Dl → Mu → Ro
  | [], δ, m => .next δ m
  | d :: ds, δ, m => match g d δ m with
    | .ok δ m => match tb δ m with
      | .next δ m => for2 g tb ds δ m
      | .cnt δ m => for2 g tb ds δ m
      | .brk δ m => .next δ m
      | r => r
    | _ => .bad
def forS (it : Dl → Mu → Rs (List D)) (g : G2f) (tb : Dl → Mu → Ro) : Dl → Mu → Ro := fun δ m => (it δ m).thn δ fun ds m => for2 g tb ds δ m
def while2 (tc : Dl → Mu → Rs Bool) (tb : Dl → Mu → Ro) : Nat → Dl → Mu → Ro
  | 0, _, _ => .bad
  | n + 1, δ, m => (tc δ m).thn δ fun b m => if b = true then match tb δ m with
      | .next δ m => while2 tc tb n δ m
      | .cnt δ m => while2 tc tb n δ m
      | .brk δ m => .next δ m
      | r => r
    else .next δ m
theorem drop_cons {α : Type} {l : List α} {i : Nat} {d : α} (h : l[i]? = some d) : l.drop i = d :: l.drop (i + 1) := by
  obtain ⟨h1, h2⟩ := List.getElem?_eq_some_iff.mp h
  rw [List.drop_eq_getElem_cons h1, h2]
section
variable {X : Cx} {Wx : WX} {ws : List Nat} {tg iter c : Expr} {body : List Stmt} {it : Dl → Mu → Rs (List D)} {g : G2f} {tb : Dl → Mu → Ro} {tc : Dl → Mu → Rs Bool} {pos : Pos}
theorem s2_for (hp : PassesOwn (model X.prog X.w) X.A X.env X.xe) (hc : X.calm = true) (hi : I2 X Wx tg iter it) (hg : G2 X tg ws g) (hb : SS2 X Wx body tb)
    (hs : ∀ x, foldedSetIterable iter X.env x = pure x := by intro _; rfl) : S2 X Wx (.For tg iter body [] pos) (forS it g tb) :=
  PS.wk (ps_for hp hc hi hg hb hs) fun E σ H ⟨W, δ, m, e, S, N, h⟩ => ⟨W, δ, m, e, S, N, (Post.thn S N h).mono fun J H1 ⟨W1, m1, ds, e1, x1, S1, N1, r1, h1⟩ => by
    subst e1
    refine ⟨fun i k σ H => k = ds.length - i ∧ i ≤ ds.length ∧ ∃ W' δ' m', W'.H = H ∧ Ext W1 W' ∧ Sim X.K X.mg W' m' ∧ En X.K X.mg W' σ δ' ∧ PostS X.K X.mg Wx W' E (for2 g tb (ds.drop i) δ' m'),
      ⟨ds.length, by simp, Nat.zero_le _, W1, δ, m1, rfl, Ext.refl, S1, N1, h1⟩, ?_⟩
    rintro i k σ H ⟨rfl, hi, W', δ', m', rfl, x', S', N', h'⟩
    obtain ⟨q1, q2⟩ := r1 W' m' x' S' i
    by_cases hlt : i < ds.length
    · have hd : ds[i]? = some ds[i] := by simp [hlt]
      obtain ⟨go, yl⟩ := q1 _ hd
      rw [drop_cons hd] at h'
      refine .inr ⟨go, fun σ H => ∃ W'' δ'' m'', W''.H = H ∧ Ext W1 W'' ∧ Sim X.K X.mg W'' m'' ∧ En X.K X.mg W'' σ δ'' ∧ PostS X.K X.mg Wx W'' E (for2 g tb (ds.drop (i + 1)) δ'' m''), fun σ' H' q => ⟨ds.length - (i + 1), by omega, rfl, hlt, q⟩, fun x H' hy => ?_⟩
      obtain ⟨W2, rfl, x2, S2, r2⟩ := yl x H' hy
      refine ⟨W2, ds[i], δ', m', rfl, S2, N'.mono (x2.keep S'), r2, ?_⟩
      unfold for2 at h'
      cases hg : g ds[i] δ' m' with
      | exc c ns vs m'' => rw [hg] at h'; exact h'.elim
      | bad => rw [hg] at h'; exact h'.elim
      | ok δ1 m2 =>
        rw [hg] at h'
        dsimp only at h'
        intro σ1 W3 _ x3 S3 N3
        refine ⟨W3, δ1, m2, rfl, S3, N3, ?_⟩
        cases ht : tb δ1 m2 with
        | next δ3 m3 => rw [ht] at h'; exact fun σ4 W4 x4 S4 N4 => ⟨W4, δ3, m3, rfl, x'.trans (x2.trans (x3.trans x4)), S4, N4, PostS.ext h' (x2.trans (x3.trans x4))⟩
        | cnt δ3 m3 => rw [ht] at h'; exact fun σ4 W4 x4 S4 N4 => ⟨W4, δ3, m3, rfl, x'.trans (x2.trans (x3.trans x4)), S4, N4, PostS.ext h' (x2.trans (x3.trans x4))⟩
        | brk δ3 m3 => rw [ht] at h'; exact fun σ4 W4 x4 S4 N4 => h' σ4 W4 (x2.trans (x3.trans x4)) S4 N4
        | ret d m3 => rw [ht] at h'; exact fun v W4 x4 S4 N4 => h' v W4 (x2.trans (x3.trans x4)) S4 N4
        | exc c ns vs δ3 m3 => rw [ht] at h'; exact fun σ4 cls d W4 x4 S4 N4 r4 => h' σ4 cls d W4 (x2.trans (x3.trans x4)) S4 N4 r4
        | bad => rw [ht] at h'; exact h'.elim
    · have e : i = ds.length := by omega
      refine .inl ⟨q2 e, ?_⟩
      rw [e, List.drop_length] at h'
      exact h' σ W' Ext.refl S' N'⟩
theorem s2_while (n : Nat) (hp : PassesOwn (model X.prog X.w) X.A X.env X.xe) (hc : C2 X Wx c tc) (hb : SS2 X Wx body tb) : S2 X Wx (.While c body [] pos) (while2 tc tb n) :=
  PS.wk (ps_while hp hc hb) fun E σ H ⟨W, δ, m, e, S, N, h⟩ => by
    refine ⟨fun k σ H => ∃ W' δ' m', W'.H = H ∧ Sim X.K X.mg W' m' ∧ En X.K X.mg W' σ δ' ∧ PostS X.K X.mg Wx W' E (while2 tc tb k δ' m'), ⟨n, W, δ, m, e, S, N, h⟩, ?_⟩
    rintro k σ H ⟨W', δ', m', rfl, S', N', h'⟩
    cases k with
    | zero => exact h'.elim
    | succ k =>
      unfold while2 at h'
      refine ⟨W', δ', m', rfl, S', N', (Post.thn S' N' h').mono fun b H1 ⟨W1, m1, x, e1, x1, S1, N1, r1, h1⟩ => ?_⟩
      subst e1 r1
      cases b with
      | false => exact iteF (h1 σ W1 Ext.refl S1 N1)
      | true =>
        refine iteT ⟨fun σ H => ∃ W'' δ'' m'', W''.H = H ∧ Sim X.K X.mg W'' m'' ∧ En X.K X.mg W'' σ δ'' ∧ PostS X.K X.mg Wx W'' E (while2 tc tb k δ'' m''), fun σ' H' q => ⟨k, Nat.lt_succ_self k, q⟩, W1, δ', m1, rfl, S1, N1, ?_⟩
        rw [if_pos rfl] at h1
        cases ht : tb δ' m1 with
        | next δ3 m3 => rw [ht] at h1; exact fun σ4 W4 x4 S4 N4 => ⟨W4, δ3, m3, rfl, S4, N4, PostS.ext h1 x4⟩
        | cnt δ3 m3 => rw [ht] at h1; exact fun σ4 W4 x4 S4 N4 => ⟨W4, δ3, m3, rfl, S4, N4, PostS.ext h1 x4⟩
        | brk δ3 m3 => rw [ht] at h1; exact fun σ4 W4 x4 S4 N4 => h1 σ4 W4 x4 S4 N4
        | ret d m3 => rw [ht] at h1; exact fun v W4 x4 S4 N4 => h1 v W4 x4 S4 N4
        | exc c ns vs δ3 m3 => rw [ht] at h1; exact fun σ4 cls d W4 x4 S4 N4 r4 => h1 σ4 cls d W4 x4 S4 N4 r4
        | bad => rw [ht] at h1; exact h1.elim
end
/-! ### comprehensions -/
/-- an exception within is not told -/
def Rs.nx {α β : Type} (r : Rs α) (k : α → Mu → Rs β) : Rs β := match r with
  | .ok b m => k b m
  | _ => .bad
@[simp] theorem Rs.nx_ok {α β : Type} (b : α) (m : Mu) (k : α → Mu → Rs β) : (Rs.ok b m).nx k = k b m := rfl
@[simp] theorem Rs.nx_exc {α β : Type} (c : String) (ns : List String) (vs : List D) (m : Mu) (k : α → Mu → Rs β) : (Rs.exc c ns vs m : Rs α).nx k = .bad := rfl
@[simp] theorem Rs.nx_bad {α β : Type} (k : α → Mu → Rs β) : (Rs.bad : Rs α).nx k = .bad := rfl
theorem Rs.nx_inv {α β : Type} {r : Rs α} {k : α → Mu → Rs β} {b : β} {m : Mu} (h : r.nx k = .ok b m) : ∃ a m', r = .ok a m' ∧ k a m' = .ok b m := by
  cases r with
  | ok a m' => exact ⟨a, m', rfl, h⟩
  | exc _ _ _ _ => cases h
  | bad => cases h
def wipeD (δ : Dl) : List Nat → Dl
  | [] => δ
  | v :: vs => (wipeD δ vs).set v none
def comp2 (g : G2f) (tt : Dl → Mu → Rs Bool) (te : Dl → Mu → Rs D) (δ : Dl) : List D → Mu → Rs (List D)
  | [], m => .ok [] m
  | d :: ds, m => (g d δ m).nx fun δ' m => (tt δ' m).nx fun b m => if b = true then (te δ' m).nx fun y m => (comp2 g tt te δ ds m).nx fun ys m => .ok (y :: ys) m else comp2 g tt te δ ds m
def lcF (ys : List D) (m : Mu) : Rs D := if ys.length ≤ SZ then .ok (.lst ys) m else .bad
def lc2 (it : Dl → Mu → Rs (List D)) (g : G2f) (tt : Dl → Mu → Rs Bool) (te : Dl → Mu → Rs D) (vs : List Nat) : Dl → Mu → Rs D := fun δ m => (it δ m).bind fun ds m => (comp2 g tt te (wipeD δ vs) ds m).nx lcF
def yes2 : Dl → Mu → Rs Bool := fun _ m => .ok true m
abbrev Wx0 : WX := fun _ _ _ _ => False
section
variable {K : PySem.W.Frag} {mg : Str → Option Value} {W W' W1 : Wd} {m : Mu}
theorem En.wipe {σ : L2.St} {δ : Dl} (N : En K mg W σ δ) : ∀ vs, En K mg W (L2.wipe σ vs) (wipeD δ vs)
  | [] => N
  | v :: vs => by
    have ih := N.wipe vs
    refine ⟨by simp only [L2.wipe, wipeD, List.length_set]; exact ih.1, fun i d h => ?_⟩
    simp only [wipeD] at h
    by_cases hx : v = i
    · subst hx
      by_cases hl : v < (wipeD δ vs).length
      · rw [List.getElem?_set_self hl] at h; cases h
      · rw [List.getElem?_eq_none (by simpa using hl)] at h; cases h
    · rw [List.getElem?_set_ne hx] at h
      obtain ⟨u, hu, r⟩ := ih.2 i d h
      exact ⟨u, by simp only [L2.wipe]; rw [List.getElem?_set_ne hx]; exact hu, r⟩
/-- the new list within a comprehension: owned, no cell -/
def Wd.hold (W : Wd) (p : Addr) (o : HO) : Wd := { W with O := fun a => a = p ∨ W.O a, H := upd W.H p o }
def Wd.give (W : Wd) (p : Addr) : Wd := { W with O := fun a => a ≠ p ∧ W.O a }
theorem Keep.hold {p : Addr} {o : HO} (h : W.H p = none) : Keep W (W.hold p o) := ⟨⟨[], by simp [Wd.hold]⟩, fun a u e n => ⟨(upd_ne (ne_trk h e)).trans e, fun z => z.elim (ne_trk h e) n⟩⟩
theorem Ext.hold {p : Addr} {o : HO} (S : Sim K mg W m) (h : W.H p = none) : Ext W (W.hold p o) := by
  refine ⟨⟨[], by simp [Wd.hold]⟩, fun a u e n => ⟨(upd_ne (ne_trk h e)).trans e, n⟩, fun a e n z => z.elim (fun y => e (y ▸ h)) n, fun a _ h1 _ => .inr h1, fun a e => ?_⟩
  show upd W.H p o a ≠ none
  unfold upd
  split
  · exact fun z => nomatch z
  · exact e
theorem Sim.hold {p : Addr} {o : HO} (S : Sim K mg W m) (h : W.H p = none) (ht : ∀ vs, o ≠ .tup vs := by intro vs z; cases z) : Sim K mg (W.hold p o) m := by
  have k : Keep W (W.hold p o) := Keep.hold h
  refine ⟨S.len, S.nd, fun a ha => (Ext.hold (o := o) S h).tr a (S.trk a ha), fun a ha => .inr (S.own a ha), S.lv, S.lva, fun r a c e1 e2 e3 => ?_, fun a ha vs => ?_⟩
  · obtain ⟨u, eu, hu⟩ := S.cell r a c e1 e2 e3
    exact ⟨u, (upd_ne (ne_trk h eu)).trans eu, hu.mono k⟩
  · show upd W.H p o a ≠ _
    by_cases hx : a = p
    · subst hx
      rw [upd_same]
      exact fun z => ht vs (Option.some.inj z)
    · rw [upd_ne hx]
      exact S.ot a (ha.resolve_left hx) vs
/-- the held list is written -/
theorem Keep.wr {p : Addr} {o : HO} (h : W.O p) : Keep W (W.put p o) := Keep.put h
theorem Sim.wr {p : Addr} {o u : HO} (S : Sim K mg W m) (hp : W.H p = some u) (ho : W.O p) (hl : ¬ W.lv p) (ht : ∀ vs, o ≠ .tup vs := by intro vs z; cases z) : Sim K mg (W.put p o) m := by
  have k : Keep W (W.put p o) := Keep.put ho
  refine ⟨S.len, S.nd, fun a ha => ?_, S.own, S.lv, S.lva, fun r a c e1 e2 e3 => ?_, fun a ha vs => ?_⟩
  · show upd W.H p o a ≠ none
    unfold upd
    split
    · exact fun z => nomatch z
    · exact S.trk a ha
  · obtain ⟨u, eu, hu⟩ := S.cell r a c e1 e2 e3
    have ne : a ≠ p := fun z => hl (z ▸ (S.lv r a e1).mpr ⟨c, e2, e3⟩)
    exact ⟨u, (upd_ne ne).trans eu, hu.mono k⟩
  · show upd W.H p o a ≠ _
    by_cases hx : a = p
    · subst hx
      rw [upd_same]
      exact fun z => ht vs (Option.some.inj z)
    · rw [upd_ne hx]
      exact S.ot a ha vs
theorem Sim.give {p : Addr} (S : Sim K mg W m) (hl : ¬ W.lv p) : Sim K mg (W.give p) m := by
  have k : Keep W (W.give p) := ⟨⟨[], by simp [Wd.give]⟩, fun a u e n => ⟨e, fun z => n z.2⟩⟩
  refine ⟨S.len, S.nd, S.trk, fun a ha => ⟨fun z => hl (z ▸ ha), S.own a ha⟩, S.lv, S.lva, fun r a c e1 e2 e3 => ?_, fun a ha vs => S.ot a ha.2 vs⟩
  obtain ⟨u, eu, hu⟩ := S.cell r a c e1 e2 e3
  exact ⟨u, eu, hu.mono k⟩
theorem Keep.give {p : Addr} : Keep W (W.give p) := ⟨⟨[], by simp [Wd.give]⟩, fun a u e n => ⟨e, fun z => n z.2⟩⟩
/-- from W, with the list at p held, to W': all but p is as a step leaves it -/
structure ExtP (W : Wd) (p : Addr) (W' : Wd) : Prop where
  x : Ext (W.hold p (.lst [])) W'
theorem ExtP.give {p : Addr} (h : W.H p = none) (x : Ext W W') (hp : W'.H p ≠ none) (ho : W'.O p) (hl : ¬ W'.lv p) : Ext W (W'.give p) := by
  refine ⟨x.al, fun a o e n => x.st a o e n, fun a e n z => x.no a e n z.2, fun a e o l => ⟨fun z => e (z ▸ h), x.ye a e o l⟩, x.tr⟩
theorem Ext.put_un {p : Addr} {o : HO} (h : W.H p = none) (x : Ext W W1) : Ext W (W1.put p o) := by
  refine ⟨x.al, fun a v e n => ?_, x.no, x.ye, fun a e => ?_⟩
  · obtain ⟨h1, h2⟩ := x.st a v e n
    exact ⟨(upd_ne (ne_trk h e)).trans h1, h2⟩
  · show upd W1.H p o a ≠ none
    unfold upd
    split
    · exact fun z => nomatch z
    · exact x.tr a e
theorem wipe_len (σ : L2.St) : ∀ vs, (L2.wipe σ vs).length = σ.length := L2.wipe_length σ
theorem wipe_at (σ : L2.St) {i : Nat} : ∀ {vs : List Nat}, i ∈ vs → i < σ.length → (L2.wipe σ vs)[i]? = some none
  | [], h, _ => by simp at h
  | v :: vs, h, hl => by
    simp only [L2.wipe]
    by_cases hx : v = i
    · subst hx
      exact List.getElem?_set_self (by rw [wipe_len]; exact hl)
    · rw [List.getElem?_set_ne hx]
      exact wipe_at σ ((List.mem_cons.mp h).resolve_left (Ne.symm hx)) hl
theorem wipe_off {σ σ2 : L2.St} {vs ws : List Nat} (h : Off ws (L2.wipe σ vs) σ2) (hw : ∀ i ∈ ws, i ∈ vs) : L2.wipe σ2 vs = L2.wipe σ vs := by
  have hl : σ2.length = σ.length := by rw [h.1, wipe_len]
  apply List.ext_getElem?
  intro i
  by_cases hi : i ∈ vs
  · by_cases hil : i < σ.length
    · rw [wipe_at σ2 hi (by omega), wipe_at σ hi hil]
    · rw [List.getElem?_eq_none (by rw [wipe_len]; omega), List.getElem?_eq_none (by rw [wipe_len]; omega)]
  · rw [L2.wipe_out hi]
    exact h.2 i fun z => hi (hw i z)
theorem t2_lc {Wx : WX} {it : Dl → Mu → Rs (List D)} {g : G2f} {tt : Dl → Mu → Rs Bool} {te : Dl → Mu → Rs D} {vs ws : List Nat} {σ : L2.St} {H : Hp} {Q : VK} (hw : ∀ i ∈ ws, i ∈ vs)
    (h : T2G K mg (fun W => DR K mg W) Wx (lc2 it g tt te vs) σ H Q) :
    tLc (T2G K mg (fun W (ds : List D) (J : It) => ItR K mg W ds J) Wx it) (T2Gt K mg ws g) (T2G K mg (fun _ b v => v = b) Wx0 tt) (T2G K mg (fun W => DR K mg W) Wx0 te) vs σ H Q := by
  obtain ⟨W, δ, m, e, S, N, h⟩ := h
  refine ⟨W, δ, m, e, S, N, (Post.bind h).mono fun J H1 ⟨W1, m1, ds, e1, x1, S1, r1, h1⟩ D hD => ?_⟩
  subst e1
  have N1 : En K mg W1 (L2.wipe σ vs) (wipeD δ vs) := (N.mono (x1.keep S)).wipe vs
  refine ⟨fun i k H => k = ds.length - i ∧ i ≤ ds.length ∧ ∃ W' m' acc vacc, W'.H = H ∧ Ext W1 W' ∧ W'.H D = some (.lst vacc) ∧ W'.O D ∧ ¬ W'.lv D ∧ DRs K mg W' acc vacc ∧ Sim K mg W' m' ∧ En K mg W' (L2.wipe σ vs) (wipeD δ vs) ∧
      Post K mg (fun W => DR K mg W) (fun c d H' => Wx c d σ H') W1 Q ((comp2 g tt te (wipeD δ vs) (ds.drop i) m').nx fun ys m => lcF (acc ++ ys) m),
    ⟨ds.length, by simp, Nat.zero_le _, W1.hold D (.lst []), m1, [], [], rfl, Ext.hold S1 hD, upd_same, .inl rfl, fun z => S1.trk D (S1.lva D z) hD, DRs.nil, S1.hold hD, N1.mono (Keep.hold hD), by simpa using h1⟩, ?_⟩
  rintro i k H ⟨rfl, hi, W', m', acc, vacc, rfl, x', hDl, hO, hlv, ra, S', N', h'⟩
  have kp := x'.keep S1
  obtain ⟨q1, q2⟩ := r1 W' m' x' S' i
  by_cases hlt : i < ds.length
  · have hd : ds[i]? = some ds[i] := by simp [hlt]
    obtain ⟨go, yl⟩ := q1 _ hd
    rw [drop_cons hd] at h'
    simp only [comp2] at h'
    refine .inr ⟨go, fun H => ∃ W' m' acc vacc, W'.H = H ∧ Ext W1 W' ∧ W'.H D = some (.lst vacc) ∧ W'.O D ∧ ¬ W'.lv D ∧ DRs K mg W' acc vacc ∧ Sim K mg W' m' ∧ En K mg W' (L2.wipe σ vs) (wipeD δ vs) ∧
        Post K mg (fun W => DR K mg W) (fun c d H' => Wx c d σ H') W1 Q ((comp2 g tt te (wipeD δ vs) (ds.drop (i + 1)) m').nx fun ys m => lcF (acc ++ ys) m), fun H' q => ⟨ds.length - (i + 1), by omega, rfl, hlt, q⟩, fun x H' hy => ?_⟩
    obtain ⟨W2, rfl, x2, S2, r2⟩ := yl x H' hy
    refine ⟨W2, ds[i], wipeD δ vs, m', rfl, S2, N'.mono (x2.keep S'), r2, ?_⟩
    cases hg : g ds[i] (wipeD δ vs) m' with
    | exc c ns us m'' => rw [hg] at h'; exact h'.elim
    | bad => rw [hg] at h'; exact h'.elim
    | ok δ1 m2 =>
      rw [hg] at h'
      simp only [Rs.nx_ok] at h'
      intro σ1 W3 off x3 S3 N3
      refine ⟨wipe_off off hw, W3, δ1, m2, rfl, S3, N3, ?_⟩
      cases ht : tt δ1 m2 with
      | exc c ns us m'' => rw [ht] at h'; exact h'.elim
      | bad => rw [ht] at h'; exact h'.elim
      | ok b m3 =>
        rw [ht] at h'
        simp only [Rs.nx_ok] at h'
        intro v W4 x4 S4 ev
        subst ev
        have hD2 := x2.st D _ hDl hlv
        have hD3 := x3.st D _ hD2.1 hD2.2
        have hD4 := x4.st D _ hD3.1 hD3.2
        have o2 := x2.ye D (by rw [hDl]; exact fun z => nomatch z) hO hlv
        have o3 := x3.ye D (by rw [hD2.1]; exact fun z => nomatch z) o2 hD2.2
        have o4 := x4.ye D (by rw [hD3.1]; exact fun z => nomatch z) o3 hD3.2
        have k4 : Keep W' W4 := (x2.keep S').trans ((x3.keep S2).trans (x4.keep S3))
        cases v with
        | false =>
          rw [if_neg Bool.false_ne_true] at h'
          exact iteF ⟨W4, m3, acc, vacc, rfl, x'.trans (x2.trans (x3.trans x4)), hD4.1, o4, hD4.2, ra.mono k4, S4, N'.mono k4, h'⟩
        | true =>
          rw [if_pos rfl] at h'
          refine iteT ⟨W4, δ1, m3, rfl, S4, N3.mono (x4.keep S3), ?_⟩
          cases hte : te δ1 m3 with
          | exc c ns us m'' => rw [hte] at h'; exact h'.elim
          | bad => rw [hte] at h'; exact h'.elim
          | ok y m5 =>
            rw [hte] at h'
            simp only [Rs.nx_ok] at h'
            intro u W5 x5 S5 r5
            have hD5 := x5.st D _ hD4.1 hD4.2
            have o5 := x5.ye D (by rw [hD4.1]; exact fun z => nomatch z) o4 hD4.2
            have k5 : Keep W' W5 := k4.trans (x5.keep S4)
            have kw : Keep W5 (W5.put D (.lst (vacc ++ [u]))) := Keep.wr o5
            have hbound : acc.length < SZ := by
              cases hc : comp2 g tt te (wipeD δ vs) (ds.drop (i + 1)) m5 with
              | exc c ns us m'' => rw [hc] at h'; exact h'.elim
              | bad => rw [hc] at h'; exact h'.elim
              | ok ys m6 =>
                rw [hc] at h'
                simp only [Rs.nx_ok, lcF] at h'
                split at h'
                · rename_i hl
                  simp at hl; omega
                · exact h'.elim
            refine ⟨vacc, hD5.1, by rw [ra.len, SZ_eq]; exact hbound, W5.put D (.lst (vacc ++ [u])), m5, acc ++ [y], vacc ++ [u], rfl, Ext.put_un hD (x'.trans (x2.trans (x3.trans (x4.trans x5)))), upd_same, o5, hD5.2, ?_, S5.wr hD5.1 o5 hD5.2, (N'.mono k5).mono kw, ?_⟩
            · exact ((ra.mono k5).append (.one r5)).mono kw
            · cases hc : comp2 g tt te (wipeD δ vs) (ds.drop (i + 1)) m5 with
              | exc c ns us m'' => rw [hc] at h'; exact h'.elim
              | bad => rw [hc] at h'; exact h'.elim
              | ok ys m6 =>
                rw [hc] at h'
                simp only [Rs.nx_ok] at h' ⊢
                rw [List.append_assoc]
                exact h'
  · have e : i = ds.length := by omega
    refine .inl ⟨q2 e, ?_⟩
    rw [e, List.drop_length] at h'
    simp only [comp2, Rs.nx_ok, List.append_nil, lcF] at h'
    split at h'
    · have xg : Ext W1 (W'.give D) := ExtP.give hD x' (by rw [hDl]; exact fun z => nomatch z) hO hlv
      exact h' (.ref D) (W'.give D) xg (S'.give hlv) (by simp only [DR]; exact ⟨D, vacc, rfl, hDl, fun z => z.1 rfl, ra.mono Keep.give⟩)
    · exact h'.elim
end
section
variable {X : Cx} {Wx : WX} {ws : List Nat} {elt tg iter : Expr} {ifs : List Expr} {scope : Scope} {own : List (Str × Nat)} {pos spos py : Pos} {it : Dl → Mu → Rs (List D)} {g : G2f} {tt : Dl → Mu → Rs Bool} {te : Dl → Mu → Rs D}
abbrev CT2 (X : Cx) (ifs : List Expr) (tt : Dl → Mu → Rs Bool) : Prop := PTs X ifs (T2G X.K X.mg (fun _ b v => v = b) Wx0 tt)
theorem ct_nil : CT2 X [] yes2 := ⟨fun pins s σ H Q I ⟨W, δ, m, e, S, N, h⟩ => (pts_nil (X := X)).run pins s σ H Q I (by subst e; exact h true W Ext.refl S rfl)⟩
theorem ct_one {c : Expr} (h : C2 X Wx0 c tt) : CT2 X [c] tt := pts_one h
theorem e2_lc (hc : X.calm = true) (hN : X.N.Nodup) (hi : I2 X Wx tg iter it) (ok : BlkOk X.N X.env.scope scope own) (hw : ∀ i ∈ ws, i ∈ own.map (·.2))
    (hg : ∀ (s : Shared) (H : Hp) (C : Addr) (cl : List (Str × Addr)) (fp : List Addr), G2 (X.blk s H scope (compEnvC scope cl C X.env) fp) tg ws g) (ht : ∀ (s : Shared) (H : Hp) (C : Addr) (cl : List (Str × Addr)) (fp : List Addr), CT2 (X.blk s H scope (compEnvC scope cl C X.env) fp) ifs tt)
    (he : ∀ (s : Shared) (H : Hp) (C : Addr) (cl : List (Str × Addr)) (fp : List Addr), E2 (X.blk s H scope (compEnvC scope cl C X.env) fp) Wx0 elt te) (hs : ∀ x, foldedSetIterable iter X.env x = pure x := by intro _; rfl) :
    E2 X Wx (.ListComp elt [⟨tg, iter, ifs, 0⟩] scope pos) (lc2 it g tt te (own.map (·.2))) :=
  PE.wk (pe_lc hc hN hi ok hg ht he hs) fun σ H Q h => t2_lc hw h
theorem s2_setLc {i : Nat} {y : Str} (hc : X.calm = true) (hN : X.N.Nodup) (hy : X.N[i]? = some y) (hyl : X.env.scope.names.lookup y = some .local)
    (hsw : swapsWith (.ListComp elt [⟨tg, iter, ifs, 0⟩] scope pos) (some (.Name y py)) spos.line X.env = pure true) (hi : I2 X Wx tg iter it) (ok : BlkOk X.N X.env.scope scope own) (hw : ∀ i ∈ ws, i ∈ own.map (·.2))
    (hg : ∀ (s : Shared) (H : Hp) (C : Addr) (cl : List (Str × Addr)) (fp : List Addr), G2 (X.blk s H scope (compEnvC scope cl C X.env) fp) tg ws g) (ht : ∀ (s : Shared) (H : Hp) (C : Addr) (cl : List (Str × Addr)) (fp : List Addr), CT2 (X.blk s H scope (compEnvC scope cl C X.env) fp) ifs tt)
    (he : ∀ (s : Shared) (H : Hp) (C : Addr) (cl : List (Str × Addr)) (fp : List Addr), E2 (X.blk s H scope (compEnvC scope cl C X.env) fp) Wx0 elt te) (hs : ∀ x, foldedSetIterable iter X.env x = pure x := by intro _; rfl) :
    S2 X Wx (.Assign [.Name y py] (.ListComp elt [⟨tg, iter, ifs, 0⟩] scope pos) spos) (asg2 (lc2 it g tt te (own.map (·.2))) (name2 i)) :=
  PS.wk (ps_setLc hc hN hy hyl hsw hi ok hg ht he hs) fun E σ H ⟨W, δ, m, e, S, N, h⟩ => by
    refine t2_lc (Wx := Wx) hw ⟨W, δ, m, e, S, N, (Post.thn S N h).mono fun v H1 ⟨W1, m1, x, e1, x1, S1, N1, r1, h1⟩ => ?_⟩
    subst e1
    exact h1 _ W1 Ext.refl S1 (N1.set r1)
end
end Dn
set_option Elab.async false
set_option linter.all false
set_option maxRecDepth 100000
set_option maxHeartbeats 2000000
namespace Dn
open PySem PySem.Spec PyProof.Rows L2
/-! ### an item -/
theorem ix_dict {X : Cx} (hu : X.A.units + 1 < cLine) : IxR X (fun x y H Q => ∃ a v, x = .ref a ∧ DGet H a y (some v) ∧ Q v H) := by
  intro value slice pins s σ H x y v u Q I rx ry h hs
  obtain ⟨a, z, rfl, g, q⟩ := h
  cases rx
  exact tail_any (ops := [.ref a, u]) (dict_typeIs I g) (PySem.F.slot_dict_getitem.lookup) (d_getItem hu I g ry fun w' s3 I3 rw' => ⟨z, H, I3, rw', q⟩) hs
def rIx4 (K : PySem.W.Frag) : R2 := rOr (rIxL K) (rOr (rIxT K) (rOr rIxS fun x y H Q => ∃ a v, x = .ref a ∧ DGet H a y (some v) ∧ Q v H))
theorem p_ix {X : Cx} (hu : X.A.units + 1 < cLine) : IxR X (rIx4 X.K) := ix_list.or (ix_tup.or (ix_str.or (ix_dict hu)))
def dkey : D → Option DKey
  | .int i => some (.i i)
  | .str x => some (.s x)
  | _ => none
def lkp : List DKey → List D → DKey → Option D
  | k :: ks, v :: vs, q => if k = q then some v else lkp ks vs q
  | _, _, _ => none
def dkeys : List D → Option (List DKey)
  | [] => some []
  | d :: ds => match dkey d with
    | some k => match dkeys ds with
      | some ks => some (k :: ks)
      | none => none
    | none => none
def dkeyT (d : D) : Option (List DKey) := match d with | .tup ds => dkeys ds | _ => none
def lkpT : List (List DKey) → List D → List DKey → Option D
  | k :: ks, v :: vs, q => if k = q then some v else lkpT ks vs q
  | _, _, _ => none
def idxD (x i : D) (m : Mu) : Rs D := match look m x with
  | .lst ds => match i with
    | .int i => match atI ds i with | some d => .ok d m | none => .bad
    | _ => .bad
  | .tup ds => match i with
    | .int i => match atI ds i with | some d => .ok d m | none => .bad
    | _ => .bad
  | .scr ns => match i with
    | .int i => match atI ns i with | some d => .ok (.int d) m | none => .bad
    | _ => .bad
  | .str x => match i with
    | .int i => if x.length ≤ SZ then match atI x i with | some c => .ok (.str [c]) m | none => .bad else .bad
    | _ => .bad
  | .dct ks vs => match dkey i with
    | some k => match lkp ks vs k with | some d => .ok d m | none => .bad
    | none => .bad
  | .ktp ds => match i with
    | .int i => match atI ds i with | some d => .ok d m | none => .bad
    | _ => .bad
  | .dctT ks vs => match dkeyT i with
    | some k => match lkpT ks vs k with | some d => .ok d m | none => .bad
    | none => .bad
  | _ => .bad
section
variable {K : PySem.W.Frag} {mg : Str → Option Value} {W : Wd} {m : Mu}
theorem DRs.atI {ds : List D} {vs : List V} {i : Int} {d : D} (r : DRs K mg W ds vs) (h : L2.atI ds i = some d) : ∃ v, L2.atI vs i = some v ∧ DR K mg W d v := by
  unfold L2.atI at h ⊢
  rw [r.len]
  cases e : ixN ds.length i with
  | none => rw [e] at h; cases h
  | some j =>
    rw [e] at h
    exact r.get (i := j) h
theorem dk_inj {a b : DKey} (h : a.k = b.k) : a = b := by
  cases a <;> cases b <;> simp only [DKey.k, Sum.inl.injEq, Sum.inr.injEq, reduceCtorEq] at h
  · rw [h]
  · rw [toS_inj h]
theorem dkey_of {i : D} {u : V} {k : DKey} (r : DR K mg W i u) (h : dkey i = some k) : u = kV k.k := by
  cases i <;> simp only [dkey, reduceCtorEq, Option.some.injEq] at h
  · subst h; simp only [DR] at r; exact r
  · subst h; simp only [DR] at r; exact r
theorem lkp_of : ∀ {ks : List DKey} {ds : List D} {kvs : List (Key × V)} {k : DKey} {d : D}, kvs.map (·.1) = ks.map DKey.k → DRs K mg W ds (kvs.map (·.2)) → lkp ks ds k = some d → ∃ v, valV kvs k.k = some v ∧ DR K mg W d v
  | [], ds, kvs, k, d, hk, r, h => by simp [lkp] at h
  | k0 :: ks, [], kvs, k, d, hk, r, h => by simp [lkp] at h
  | k0 :: ks, d0 :: ds, [], k, d, hk, r, h => by simp at hk
  | k0 :: ks, d0 :: ds, (k1, v1) :: kvs, k, d, hk, r, h => by
    simp only [List.map_cons, List.cons.injEq] at hk
    simp only [List.map_cons, DRs] at r
    obtain ⟨v, l, e, r1, r2⟩ := r
    simp only [List.cons.injEq] at e
    obtain ⟨rfl, rfl⟩ := e
    simp only [lkp] at h
    obtain ⟨hk1, hk2⟩ := hk
    by_cases hx : k0 = k
    · subst hx
      rw [if_pos rfl] at h
      cases h
      exact ⟨v1, valV_pos hk1, r1⟩
    · rw [if_neg hx] at h
      obtain ⟨u, hu, ru⟩ := lkp_of hk2 r2 h
      refine ⟨u, ?_, ru⟩
      have ne : k1 ≠ k.k := fun e => hx (dk_inj (hk1 ▸ e))
      unfold valV at hu ⊢
      simp only [List.find?_cons, ne, decide_false]
      exact hu
theorem lkp_none : ∀ {ks : List DKey} {ds : List D} {kvs : List (Key × V)} {k : DKey}, kvs.map (·.1) = ks.map DKey.k → DRs K mg W ds (kvs.map (·.2)) → lkp ks ds k = none → valV kvs k.k = none
  | [], ds, kvs, k, hk, r, h => by
    have : kvs = [] := by simpa using hk
    subst this; rfl
  | k0 :: ks, [], kvs, k, hk, r, h => by
    simp only [DRs, List.map_eq_nil_iff] at r
    subst r; simp at hk
  | k0 :: ks, d0 :: ds, [], k, hk, r, h => by simp at hk
  | k0 :: ks, d0 :: ds, (k1, v1) :: kvs, k, hk, r, h => by
    simp only [List.map_cons, List.cons.injEq] at hk
    simp only [List.map_cons, DRs] at r
    obtain ⟨v, l, e, r1, r2⟩ := r
    simp only [List.cons.injEq] at e
    obtain ⟨rfl, rfl⟩ := e
    simp only [lkp] at h
    obtain ⟨hk1, hk2⟩ := hk
    by_cases hx : k0 = k
    · rw [if_pos hx] at h; cases h
    · rw [if_neg hx] at h
      have hu := lkp_none hk2 r2 h
      have ne : k1 ≠ k.k := fun e => hx (dk_inj (hk1 ▸ e))
      unfold valV at hu ⊢
      simp only [List.find?_cons, ne, decide_false]
      exact hu
theorem keyT_inj {a b : List DKey} (h : keyT a = keyT b) : a = b := List.map_inj_right (fun _ _ e => dk_inj e) |>.mp h
theorem dkeys_of : ∀ {ds : List D} {vs : List V} {ks : List DKey}, DRs K mg W ds vs → dkeys ds = some ks → vs = (keyT ks).map kV
  | [], vs, ks, r, h => by simp only [dkeys, Option.some.injEq] at h; subst h; simp only [DRs] at r; subst r; rfl
  | d :: ds, vs, ks, r, h => by
    simp only [dkeys] at h
    simp only [DRs] at r
    obtain ⟨v, l, rfl, r1, r2⟩ := r
    cases hd : dkey d with
    | none => rw [hd] at h; cases h
    | some k =>
      rw [hd] at h
      cases hs : dkeys ds with
      | none => rw [hs] at h; cases h
      | some ks' =>
        rw [hs] at h
        cases h
        rw [dkey_of r1 hd, dkeys_of r2 hs]
        rfl
theorem dkeyT_of {i : D} {u : V} {k : List DKey} (r : DR K mg W i u) (h : dkeyT i = some k) : ∃ b, u = .ref b ∧ W.H b = some (.tup ((keyT k).map kV)) := by
  unfold dkeyT at h
  split at h
  · simp only [DR] at r
    obtain ⟨a, vs, rfl, ha, rs⟩ := r
    rw [dkeys_of rs h] at ha
    exact ⟨a, rfl, ha.1⟩
  · cases h
theorem lkpT_of : ∀ {ks : List (List DKey)} {ds : List D} {kvs : List (List Key × V)} {k : List DKey} {d : D}, kvs.map (·.1) = ks.map keyT → DRs K mg W ds (kvs.map (·.2)) → lkpT ks ds k = some d → ∃ v, valV kvs (keyT k) = some v ∧ DR K mg W d v
  | [], ds, kvs, k, d, hk, r, h => by simp [lkpT] at h
  | k0 :: ks, [], kvs, k, d, hk, r, h => by simp [lkpT] at h
  | k0 :: ks, d0 :: ds, [], k, d, hk, r, h => by simp at hk
  | k0 :: ks, d0 :: ds, (k1, v1) :: kvs, k, d, hk, r, h => by
    simp only [List.map_cons, List.cons.injEq] at hk
    simp only [List.map_cons, DRs] at r
    obtain ⟨v, l, e, r1, r2⟩ := r
    simp only [List.cons.injEq] at e
    obtain ⟨rfl, rfl⟩ := e
    simp only [lkpT] at h
    obtain ⟨hk1, hk2⟩ := hk
    by_cases hx : k0 = k
    · subst hx
      rw [if_pos rfl] at h
      cases h
      exact ⟨v1, valV_pos hk1, r1⟩
    · rw [if_neg hx] at h
      obtain ⟨u, hu, ru⟩ := lkpT_of hk2 r2 h
      refine ⟨u, ?_, ru⟩
      have ne : k1 ≠ keyT k := fun e => hx (keyT_inj (hk1 ▸ e))
      unfold valV at hu ⊢
      simp only [List.find?_cons, ne, decide_false]
      exact hu
theorem lkpT_none : ∀ {ks : List (List DKey)} {ds : List D} {kvs : List (List Key × V)} {k : List DKey}, kvs.map (·.1) = ks.map keyT → DRs K mg W ds (kvs.map (·.2)) → lkpT ks ds k = none → valV kvs (keyT k) = none
  | [], ds, kvs, k, hk, r, h => by
    have : kvs = [] := by simpa using hk
    subst this; rfl
  | k0 :: ks, [], kvs, k, hk, r, h => by
    simp only [DRs, List.map_eq_nil_iff] at r
    subst r; simp at hk
  | k0 :: ks, d0 :: ds, [], k, hk, r, h => by simp at hk
  | k0 :: ks, d0 :: ds, (k1, v1) :: kvs, k, hk, r, h => by
    simp only [List.map_cons, List.cons.injEq] at hk
    simp only [List.map_cons, DRs] at r
    obtain ⟨v, l, e, r1, r2⟩ := r
    simp only [List.cons.injEq] at e
    obtain ⟨rfl, rfl⟩ := e
    simp only [lkpT] at h
    obtain ⟨hk1, hk2⟩ := hk
    by_cases hx : k0 = k
    · rw [if_pos hx] at h; cases h
    · rw [if_neg hx] at h
      have hu := lkpT_none hk2 r2 h
      have ne : k1 ≠ keyT k := fun e => hx (keyT_inj (hk1 ▸ e))
      unfold valV at hu ⊢
      simp only [List.find?_cons, ne, decide_false]
      exact hu
theorem o_ix : Op2 K mg (rIx4 K) idxD := by
  intro W m x y v u Q Wx S rx ry h
  have q := look_rd S rx
  unfold idxD at h
  split at h <;> rename_i hx <;> (try rw [hx] at q)
  · obtain ⟨a, vs, rfl, h1, h2⟩ := q
    split at h
    · split at h
      · rename_i hd
        obtain ⟨z, hz, rz⟩ := h2.atI hd
        simp only [DR] at ry
        exact .inl ⟨a, vs, _, z, rfl, ry, SqL.of h1, hz, fin S h rz⟩
      · exact h.elim
    · exact h.elim
  · simp only [RD, DR] at q
    obtain ⟨a, vs, rfl, h1, h2⟩ := q
    split at h
    · split at h
      · rename_i hd
        obtain ⟨z, hz, rz⟩ := h2.atI hd
        simp only [DR] at ry
        exact .inr (.inl ⟨a, vs, _, z, rfl, ry, sqT_of h1, hz, fin S h rz⟩)
      · exact h.elim
    · exact h.elim
  · simp only [RD, DR] at q
    obtain ⟨a, rfl, h1⟩ := q
    split at h
    · split at h
      · rename_i ns _ i _ d hd
        simp only [DR] at ry
        refine .inl ⟨a, _, _, .int d, rfl, ry, sqL_scr h1, ?_, fin S h (by simp only [DR])⟩
        unfold L2.atI at hd ⊢
        rw [List.length_map]
        cases e : ixN ns.length i with
        | none => rw [e] at hd; cases hd
        | some j =>
          rw [e] at hd
          have hd' : ns[j]? = some d := hd
          show (ns.map V.int)[j]? = _
          rw [List.getElem?_map, hd']; rfl
      · exact h.elim
    · exact h.elim
  · simp only [RD, DR] at q
    split at h
    · split at h
      · rename_i hl
        split at h
        · rename_i c hc
          simp only [DR] at ry
          exact .inr (.inr (.inl ⟨_, _, c, q, ry, by rw [toS_len, SZ_eq]; exact hl, by rw [toS_toList]; exact hc, fin S h (by simp only [DR]; rfl)⟩))
        · exact h.elim
      · exact h.elim
    · exact h.elim
  · obtain ⟨a, kvs, rfl, h1, h2, h3⟩ := q
    split at h
    · rename_i k hk
      split at h
      · rename_i d hd
        obtain ⟨z, hz, rz⟩ := lkp_of h2 h3 hd
        exact .inr (.inr (.inr ⟨a, z, rfl, .inl ⟨kvs, k.k, h1, dkey_of ry hk, hz.symm⟩, fin S h rz⟩))
      · exact h.elim
    · exact h.elim
  · simp only [RD, DR] at q
    obtain ⟨a, vs, rfl, h1, h2⟩ := q
    split at h
    · split at h
      · rename_i hd
        obtain ⟨z, hz, rz⟩ := h2.atI hd
        simp only [DR] at ry
        exact .inr (.inl ⟨a, vs, _, z, rfl, ry, .inr h1, hz, fin S h rz⟩)
      · exact h.elim
    · exact h.elim
  · obtain ⟨a, kvs, rfl, h1, h2, h3⟩ := q
    split at h
    · rename_i k hk
      split at h
      · rename_i d hd
        obtain ⟨z, hz, rz⟩ := lkpT_of h2 h3 hd
        obtain ⟨b, eb, hb⟩ := dkeyT_of ry hk
        exact .inr (.inr (.inr ⟨a, z, rfl, .inr ⟨kvs, keyT k, b, h1, eb, hb, hz.symm⟩, fin S h rz⟩))
      · exact h.elim
    · exact h.elim
  · exact h.elim
end
/-! ### slices -/
def cutL {α : Type} (xs : List α) (lo hi : Option Int) : List α := (xs.drop (HT.sIx xs.length 0 lo)).take (HT.sIx xs.length xs.length hi - HT.sIx xs.length 0 lo)
def slcD (x : D) (lo hi : Option Int) (m : Mu) : Rs D := match look m x with
  | .lst ds => .ok (.lst (cutL ds lo hi)) m
  | .tup ds => .ok (.tup (cutL ds lo hi)) m
  | .scr ns => .ok (.lst ((cutL ns lo hi).map D.int)) m
  | .str x => if x.length ≤ SZ then .ok (.str (cutL x lo hi)) m else .bad
  | _ => .bad
def partD (x : D) (m : Mu) : Rs (Option Int) := match x with
  | .int i => .ok (some i) m
  | _ => .bad
def noPart2 : Dl → Mu → Rs (Option Int) := fun _ m => .ok none m
def part2 (ta : Dl → Mu → Rs D) : Dl → Mu → Rs (Option Int) := fun δ m => (ta δ m).bind partD
def slc2 (ta : Dl → Mu → Rs D) (tl th : Dl → Mu → Rs (Option Int)) : Dl → Mu → Rs D := fun δ m => (ta δ m).bind fun x m => (tl δ m).bind fun lo m => (th δ m).bind fun hi m => slcD x lo hi m
abbrev O2 (X : Cx) (Wx : WX) (e : Option Expr) (t : Dl → Mu → Rs (Option Int)) : Prop := PO X e (T2G X.K X.mg (fun _ (b : Option Int) v => v = b) Wx t)
theorem PO.wk {X : Cx} {e : Option Expr} {t t' : TO} (h : PO X e t) (w : ∀ σ H Q, t' σ H Q → t σ H Q) : PO X e t' := ⟨fun pins s σ H Q I q => h.run pins s σ H Q I (w σ H Q q)⟩
def rSl3 (K : PySem.W.Frag) : V → Option Int → Option Int → Hp → VK → Prop := fun x lo hi H Q => rSlL K x lo hi H Q ∨ (rSlA K x lo hi H Q ∨ rSlS x lo hi H Q)
theorem p_sl {X : Cx} : SlR X (rSl3 X.K) := sl_list.or (sl_tupA.or sl_str)
section
variable {K : PySem.W.Frag} {mg : Str → Option Value} {W : Wd} {m : Mu}
theorem DRs.cut {ds : List D} {vs : List V} (r : DRs K mg W ds vs) (lo hi : Option Int) : DRs K mg W (cutL ds lo hi) (cutV vs lo hi) := by
  unfold cutL cutV
  rw [r.len]
  exact (r.drop _).take _
theorem cutV_map {α : Type} (f : α → V) (xs : List α) (lo hi : Option Int) : cutV (xs.map f) lo hi = (cutL xs lo hi).map f := by
  unfold cutL cutV
  rw [List.length_map, List.map_take, List.map_drop]
theorem slc_of {x : D} {v : V} {lo hi : Option Int} {Q : VK} {Wx : Value → Option Addr → Hp → Prop} (S : Sim K mg W m) (rx : DR K mg W x v) (h : Post K mg (fun W => DR K mg W) Wx W Q (slcD x lo hi m)) : rSl3 K v lo hi W.H Q := by
  have q := look_rd S rx
  unfold slcD at h
  split at h <;> rename_i hx <;> (try rw [hx] at q)
  · obtain ⟨a, vs, rfl, h1, h2⟩ := q
    exact .inl ⟨a, vs, rfl, SqL.of h1, new_lst S (h2.cut lo hi) h⟩
  · simp only [RD, DR] at q
    obtain ⟨a, vs, rfl, h1, h2⟩ := q
    refine .inr (.inl ⟨a, vs, rfl, sqT_of h1, fun hw => ?_, fun _ => new_tup S (h2.cut lo hi) h⟩)
    refine fin S h ?_
    simp only [DR]
    refine ⟨a, vs, rfl, h1, ?_⟩
    unfold cutL
    rw [← h2.len, hw.1, hw.2]
    simpa [h2.len] using h2
  · simp only [RD, DR] at q
    obtain ⟨a, rfl, h1⟩ := q
    refine .inl ⟨a, _, rfl, sqL_scr h1, ?_⟩
    rw [cutV_map]
    exact new_lst S (DRs.ints _) h
  · simp only [RD, DR] at q
    split at h
    · rename_i hl
      refine .inr (.inr ⟨_, q, by rw [toS_len, SZ_eq]; exact hl, fin S h ?_⟩)
      simp only [DR]
      unfold cutS cutL toS
      simp [Str.length]
    · exact h.elim
  · exact h.elim
end
section
variable {X : Cx} {Wx : WX} {e i o : Expr} {lo hi : Option Expr} {ta ti to : Dl → Mu → Rs D} {tl th : Dl → Mu → Rs (Option Int)} {pos p2 : Pos}
theorem e2_ix (hu : X.A.units + 1 < cLine) (ha : E2 X Wx e ta) (hb : E2 X Wx i ti) (hs : PlainIx i := by intro _ _; rfl) : E2 X Wx (.Subscript e i pos) (op2 idxD ta ti) :=
  PE.wk (pe_ix (p_ix hu) ha hb hs) fun σ H Q h => t2_op o_ix h
theorem o2_none : O2 X Wx none noPart2 := PO.wk po_none fun σ H Q ⟨W, δ, m, e, S, N, h⟩ => by subst e; exact h none W Ext.refl S rfl
theorem o2_some (he : E2 X Wx e ta) : O2 X Wx (some e) (part2 ta) := PO.wk (po_some he) fun σ H Q ⟨W, δ, m, e, S, N, h⟩ => ⟨W, δ, m, e, S, N, (Post.bind h).mono fun v H1 ⟨W1, m1, x, e1, x1, S1, r1, h1⟩ => by
    subst e1
    unfold partD at h1
    split at h1
    · rename_i i
      simp only [DR] at r1
      exact ⟨i, r1, h1 (some i) W1 Ext.refl S1 rfl⟩
    · exact h1.elim⟩
theorem e2_slc (he : E2 X Wx e ta) (hl : O2 X Wx lo tl) (hh : O2 X Wx hi th) : E2 X Wx (.Subscript e (.Slice lo hi none p2) pos) (slc2 ta tl th) :=
  PE.wk (pe_slice p_sl he hl hh) fun σ H Q ⟨W, δ, m, e, S, N, h⟩ => ⟨W, δ, m, e, S, N, (Post.bind h).mono fun v H1 ⟨W1, m1, x, e1, x1, S1, r1, h1⟩ => ⟨W1, δ, m1, e1, S1, N.mono (x1.keep S), (Post.bind (R := fun _ (b : Option Int) v => v = b) h1).mono fun l H2 ⟨W2, m2, y, e2, x2, S2, r2, h2⟩ =>
    ⟨W2, δ, m2, e2, S2, (N.mono (x1.keep S)).mono (x2.keep S1), (Post.bind (R := fun _ (b : Option Int) v => v = b) h2).mono fun u H3 ⟨W3, m3, z, e3, x3, S3, r3, h3⟩ => by
      subst e3 r2 r3
      exact slc_of S3 (r1.mono ((x2.keep S1).trans (x3.keep S2))) h3⟩⟩⟩
/-! ### all of it, from behind -/
def revD (x : D) (m : Mu) : Rs D := match look m x with
  | .lst ds => .ok (.lst ds.reverse) m
  | .str x => if x.length ≤ SZ then .ok (.str x.reverse) m else .bad
  | _ => .bad
def tRev2 (K : PySem.W.Frag) (te : TE) : TE := fun σ H Q => te σ H fun x H1 => (∃ a xs, x = .ref a ∧ SqL K H1 a xs ∧ ∀ p, H1 p = none → Q (.ref p) (upd H1 p (.lst xs.reverse))) ∨ ∃ z : Str, x = .str z ∧ z.length ≤ sizeLine ∧ Q (.str ⟨z.cps.toList.reverse.toArray⟩) H1
theorem rev_text (x : Str) (u : Tok) : Txt.sliceBy x none none (-1, u) = ⟨x.cps.toList.reverse.toArray⟩ := by
  have h := step_rev_list x u
  have e : (List.range x.length).map (fun k => x.cps.getD (x.length - 1 - k) 0) = x.cps.toList.reverse := by
    apply List.ext_getElem
    · simp [Str.length]
    · intro i h1 h2
      have hi : i < x.cps.size := by simpa using h2
      simp only [List.getElem_map, List.getElem_range, List.getElem_reverse, Array.getElem_toList, Array.length_toList, Str.length]
      rw [Array.getD_eq_getD_getElem?, Array.getElem?_eq_getElem (by omega)]
      rfl
  rw [e] at h
  generalize Txt.sliceBy x none none (-1, u) = z at h ⊢
  cases z with
  | mk c =>
    have : c = x.cps.toList.reverse.toArray := by
      rw [← h]
    rw [this]
theorem pe_rev2 {e : Expr} {te : TE} {k : Nat} {p1 p2 p3 pos : Pos} (he : PE X e te) : PE X (.Subscript e (.Slice none none (some (.UnaryOp .USub (.Constant (.int 1) k p1) p2)) p3) pos) (tRev2 X.K te) := by
  refine ⟨fun pins s σ H Q I h => ?_⟩
  refine Subscript_ (thn (he.run pins s σ H _ I h) fun v s1 ⟨x, H1, I1, r1, q1⟩ => ?_)
  have hst : PO X (some (.UnaryOp .USub (.Constant (.int 1) k p1) p2)) (tPart (tUn (rU fun i => .int (-i)) (tC (.int 1)))) := po_some (pe_un un_neg pe_int)
  refine wpAny_Slice (thn (po_none.run pins s1 σ H1 (fun o H2 => o = none ∧ H2 = H1) I1 ⟨rfl, rfl⟩) fun vl s2 ⟨l, H2, I2, pl, el, e2⟩ => ?_)
  subst el e2
  refine thn (po_none.run pins s2 σ H2 (fun o H3 => o = none ∧ H3 = H2) I2 ⟨rfl, rfl⟩) fun vu s3 ⟨u, H3, I3, pu, eu, e3⟩ => ?_
  subst eu e3
  refine thn (hst.run pins s3 σ H3 (fun o H4 => o = some (-1) ∧ H4 = H3) I3 ⟨1, rfl, -1, rfl, rfl, rfl⟩) fun vs s4 ⟨o, H4, I4, ps, eo, e4⟩ => ?_
  subst eo e4
  have I5 : Inv X pins σ H4 { s4 with heap := s4.heap.push { cls := .type "slice", data := .fields #[vl, vu, vs] } } := I4.kept (t' := s4.toks) fun b ob q => Heap.get?_push_of_some _ q
  show wpAny (model X.prog X.w) X.A (subscriptTail e (.Slice none none (some (.UnaryOp .USub (.Constant (.int 1) k p1) p2)) p3) v (.ref s4.heap.objs.size)) (EP X pins σ Q) X.xe { s4 with heap := s4.heap.push { cls := .type "slice", data := .fields #[vl, vu, vs] } }
  rcases q1 with ⟨a, xs, ex, hx, q⟩ | ⟨z, ex, hz, q⟩
  · subst ex
    cases r1
    obtain ⟨its, r, ht, hz⟩ := I5.list hx
    have hlen := r.length
    refine tail_any (ops := [.ref a, .ref s4.heap.objs.size]) ht.isList.typeIs (PySem.slot_list_getitem.lookup) ?_ (by with_unfolding_all rfl)
    refine wpAny_getItem_list_slice ht.isList (Heap.IsSliceOf.new _ vl vu vs) pl pu ps (by decide) ?_ (by rw [List.size_toArray]; omega)
    rw [PySem.W.krv_pick]
    refine ⟨.ref _, _, I5.laid (t' := s4.toks) (o := .lst xs.reverse) (fun b ob q => Heap.get?_push_of_some _ q) (Nat.le_refl _) ?_, rfl, q _ (I5.hok.fresh (Nat.le_refl _))⟩
    exact ⟨by rw [List.length_reverse]; exact hz, _, 0, r.reverse, Heap.get?_push_size _ rfl⟩
  · subst ex
    obtain ⟨t, rfl⟩ := (show ∃ t, v = Value.str z t from r1)
    obtain ⟨l, rfl, hl⟩ := IsPart.raw pl
    obtain ⟨u, rfl, hu⟩ := IsPart.raw pu
    obtain ⟨w', rfl, hw⟩ := IsPart.raw ps
    cases l with
    | some _ => cases hl
    | none =>
      cases u with
      | some _ => cases hu
      | none =>
        cases w' with
        | none => cases hw
        | some w' =>
          obtain ⟨k', uk⟩ := w'
          have : k' = -1 := by simpa [eq_comm] using hw
          subst this
          refine tail_any (T := "str") (ops := [.ref s4.heap.objs.size, .str z t]) (typeIs_str _ _ _) F.slot_str_getitem.lookup ?_ (by with_unfolding_all rfl)
          refine wpAny_getItem_str_slice (l := none) (u := none) (st := some (-1, uk)) ⟨_, Heap.get?_push_size _ rfl, rfl, rfl⟩ (by show ((-1 : Int) == 0) = false; decide) ?_
          refine post_val_or_str ⟨Nat.le_trans (Txt.sliceBy_le z _ _ (-1, uk) (by show (-1 : Int) ≠ 0; decide)) hz, fun t' c => ?_⟩
          have e := rev_text z uk
          refine ⟨.str ⟨z.cps.toList.reverse.toArray⟩, H4, I5.tok c, ⟨t', ?_⟩, q⟩
          rw [← e]
          rfl
theorem e2_rev {k : Nat} {p1 p3 : Pos} (he : E2 X Wx e ta) : E2 X Wx (.Subscript e (.Slice none none (some (.UnaryOp .USub (.Constant (.int 1) k p1) p2)) p3) pos) (un2 revD ta) :=
  PE.wk (pe_rev2 he) fun σ H Q ⟨W, δ, m, e, S, N, h⟩ => ⟨W, δ, m, e, S, N, (Post.bind h).mono fun v H1 ⟨W1, m1, x, e1, x1, S1, r1, h1⟩ => by
    subst e1
    have q := look_rd S1 r1
    unfold revD at h1
    split at h1 <;> rename_i hx <;> (try rw [hx] at q)
    · obtain ⟨a, vs, rfl, h3, h2⟩ := q
      exact .inl ⟨a, vs, rfl, SqL.of h3, new_lst S1 h2.reverse h1⟩
    · simp only [RD, DR] at q
      split at h1
      · rename_i hl
        exact .inr ⟨_, q, by rw [toS_len, SZ_eq]; exact hl, fin S1 h1 (by simp only [DR, toS_toList]; rfl)⟩
      · exact h1.elim
    · exact h1.elim⟩
end
end Dn
set_option Elab.async false
set_option linter.all false
set_option maxRecDepth 100000
set_option maxHeartbeats 2000000
namespace Dn
open PySem PySem.Spec PyProof.Rows L2
/-! ### targets -/
abbrev Gsf := List D → Dl → Mu → Rs Dl
def T2Gts (K : PySem.W.Frag) (mg : Str → Option Value) (ws : List Nat) (gs : Gsf) : TGs := fun vs σ H Q => ∃ W ds δ m, W.H = H ∧ Sim K mg W m ∧ En K mg W σ δ ∧ DRs K mg W ds vs ∧ PostG K mg ws σ W Q (gs ds δ m)
abbrev GS2 (X : Cx) (ts : List Expr) (ws : List Nat) (gs : Gsf) : Prop := PGs X ts (T2Gts X.K X.mg ws gs)
theorem PGs.wk {X : Cx} {ts : List Expr} {t t' : TGs} (h : PGs X ts t) (w : ∀ v σ H Q, t' v σ H Q → t v σ H Q) : PGs X ts t' := ⟨fun pins s σ H v u Q I r q => h.run pins s σ H v u Q I r (w v σ H Q q)⟩
def gnil2 : Gsf := fun ds δ m => match ds with | [] => .ok δ m | _ => .bad
def gcons2 (g : G2f) (gs : Gsf) : Gsf := fun ds δ m => match ds with | d :: r => (g d δ m).nx fun δ m => gs r δ m | [] => .bad
def tupG (n : Nat) (gs : Gsf) : G2f := fun d δ m => match d with | .tup ds => if ds.length = n then gs ds δ m else .bad | _ => .bad
theorem Off.refl {σ : L2.St} : Off [] σ σ := ⟨rfl, fun _ _ => rfl⟩
theorem Off.trans {a b : List Nat} {σ σ1 σ2 : L2.St} (h : Off a σ σ1) (h' : Off b σ1 σ2) : Off (a ++ b) σ σ2 :=
  ⟨h'.1.trans h.1, fun j hj => (h'.2 j fun z => hj (List.mem_append_right _ z)).trans (h.2 j fun z => hj (List.mem_append_left _ z))⟩
section
variable {X : Cx} {t : Expr} {ts : List Expr} {ws ws' : List Nat} {g : G2f} {gs : Gsf} {pos : Pos}
theorem gs_nil : GS2 X [] [] gnil2 := PGs.wk pgs_nil fun vs σ H Q ⟨W, ds, δ, m, e, S, N, r, h⟩ => by
  subst e
  unfold gnil2 at h
  split at h
  · simp only [DRs] at r
    exact ⟨r, h σ W Off.refl Ext.refl S N⟩
  · exact h.elim
theorem gs_cons (h1 : G2 X t ws g) (h2 : GS2 X ts ws' gs) (hs : (assignEach (t :: ts) X.env).map (·.2) = assign t X.env :: (assignEach ts X.env).map (·.2) := by rfl) : GS2 X (t :: ts) (ws ++ ws') (gcons2 g gs) :=
  PGs.wk (pgs_cons h1 h2 hs) fun vs σ H Q ⟨W, ds, δ, m, e, S, N, r, h⟩ => by
    unfold gcons2 at h
    split at h
    · rename_i d l
      simp only [DRs] at r
      obtain ⟨v, vr, rfl, r1, r2⟩ := r
      refine ⟨v, vr, rfl, W, d, δ, m, e, S, N, r1, ?_⟩
      cases hg : g d δ m with
      | exc c ns vs m' => rw [hg] at h; exact h.elim
      | bad => rw [hg] at h; exact h.elim
      | ok δ1 m1 =>
        rw [hg] at h
        simp only [Rs.nx_ok] at h
        refine fun σ1 W1 o1 x1 S1 N1 => ⟨W1, l, δ1, m1, rfl, S1, N1, r2.mono (x1.keep S), ?_⟩
        cases hgs : gs l δ1 m1 with
        | exc c ns vs m' => rw [hgs] at h; exact h.elim
        | bad => rw [hgs] at h; exact h.elim
        | ok δ2 m2 =>
          rw [hgs] at h
          exact fun σ2 W2 o2 x2 S2 N2 => h σ2 W2 (o1.trans o2) (x1.trans x2) S2 N2
    · exact h.elim
theorem g2_tup {k n : Nat} (hc : X.calm = true) (h : GS2 X ts ws gs) (hn : (assignEach ts X.env).length = n := by rfl) (hst : (assignEach ts X.env).findIdx? (·.1) = none := by rfl) : G2 X (.Tuple ts k pos) ws (tupG n gs) :=
  PG.wk (pg_tup hc h hn hst) fun v σ H Q ⟨W, d, δ, m, e, S, N, r, h⟩ => by
    unfold tupG at h
    split at h
    · rename_i ds
      split at h
      · rename_i hl
        simp only [DR] at r
        obtain ⟨a, vs, rfl, h1, r⟩ := r
        subst e
        exact ⟨a, vs, rfl, sqT_of h1, by rw [r.len]; exact hl, W, ds, δ, m, rfl, S, N, r, h⟩
      · exact h.elim
    · exact h.elim
/-! o[i] = v -/
theorem PSet.or {X : Cx} {t t' : TSet} (h : PSet X t) (h' : PSet X t') : PSet X (fun o i v H Q => t o i v H Q ∨ t' o i v H Q) := by
  intro pins s σ H o i v ov iv u Q I ro ri rv q
  rcases q with q | q
  · exact h pins s σ H o i v ov iv u Q I ro ri rv q
  · exact h' pins s σ H o i v ov iv u Q I ro ri rv q
def dput : List DKey → List D → DKey → D → List DKey × List D
  | k :: ks, v :: vs, q, d => if k = q then (k :: ks, d :: vs) else let r := dput ks vs q d; (k :: r.1, v :: r.2)
  | _, _, q, d => ([q], [d])
def dputT : List (List DKey) → List D → List DKey → D → List (List DKey) × List D
  | k :: ks, v :: vs, q, d => if k = q then (k :: ks, d :: vs) else let r := dputT ks vs q d; (k :: r.1, v :: r.2)
  | _, _, q, d => ([q], [d])
def setD (o i d : D) (m : Mu) : Rs Unit := match o with
  | .ref r => match m[r]? with
    | some (.lst ds) => match i with
      | .int k => match ixN ds.length k with | some j => .ok () (m.set r (.lst (ds.set j d))) | none => .bad
      | _ => .bad
    | some (.dct ks vs) => match dkey i with
      | some k => if ks.length < SZ ∧ ks.Nodup then .ok () (m.set r (.dct (dput ks vs k d).1 (dput ks vs k d).2)) else .bad
      | none => .bad
    | some (.dctT ks vs) => match dkeyT i with
      | some k => if ks.length < SZ ∧ ks.Nodup then .ok () (m.set r (.dctT (dputT ks vs k d).1 (dputT ks vs k d).2)) else .bad
      | none => .bad
    | _ => .bad
  | _ => .bad
def subG (to ti : Dl → Mu → Rs D) : G2f := fun d δ m => (to δ m).nx fun o m => (ti δ m).nx fun i m => (setD o i d m).nx fun _ m => .ok δ m
end
section
variable {K : PySem.W.Frag} {mg : Str → Option Value} {W : Wd} {m : Mu}
theorem put_keys : ∀ {kvs : List (Key × V)} {k : Key}, (kvs.map (·.1)).Nodup → (kvs.any fun kv => decide (kv.1 = k)) = true → True := fun _ _ => trivial
theorem putK_cons (k0 : Key) (v0 : V) (kvs : List (Key × V)) (k : Key) (v : V) (hn : k0 ∉ kvs.map (·.1)) : putK ((k0, v0) :: kvs) k v = if k0 = k then (k0, v) :: kvs else (k0, v0) :: putK kvs k v := by
  unfold putK
  by_cases hx : k0 = k
  · subst hx
    simp only [List.any_cons, decide_true, Bool.true_or, if_true, List.map_cons]
    congr 1
    conv => rhs; rw [← List.map_id kvs]
    apply List.map_congr_left
    intro kv hkv
    rw [if_neg (show ¬ kv.1 = k0 from fun e => hn (by rw [← e]; exact List.mem_map_of_mem hkv))]
    rfl
  · simp only [List.any_cons, hx, decide_false, Bool.false_or, if_false, List.map_cons]
    split
    · rfl
    · rfl
theorem dput_of : ∀ {ks : List DKey} {ds : List D} {kvs : List (Key × V)} {k : DKey} {d : D} {v : V}, ks.Nodup → kvs.map (·.1) = ks.map DKey.k → DRs K mg W ds (kvs.map (·.2)) → DR K mg W d v →
    (putK kvs k.k v).map (·.1) = (dput ks ds k d).1.map DKey.k ∧ DRs K mg W (dput ks ds k d).2 ((putK kvs k.k v).map (·.2))
  | [], ds, kvs, k, d, v, _, hk, r, rd => by
    have e : kvs = [] := by simpa using hk
    subst e
    exact ⟨rfl, DRs.one rd⟩
  | k0 :: ks, [], kvs, k, d, v, _, hk, r, rd => by
    simp only [DRs, List.map_eq_nil_iff] at r
    subst r; simp at hk
  | k0 :: ks, d0 :: ds, [], k, d, v, _, hk, r, rd => by simp at hk
  | k0 :: ks, d0 :: ds, (k1, v1) :: kvs, k, d, v, hn, hk, r, rd => by
    simp only [List.map_cons, List.cons.injEq] at hk
    simp only [List.map_cons, DRs] at r
    obtain ⟨v', l, e, r1, r2⟩ := r
    simp only [List.cons.injEq] at e
    obtain ⟨rfl, rfl⟩ := e
    obtain ⟨hk1, hk2⟩ := hk
    have hn' := List.nodup_cons.mp hn
    have hnk : k1 ∉ kvs.map (·.1) := by
      rw [hk1, hk2]
      intro hm
      obtain ⟨q, hq, he⟩ := List.mem_map.mp hm
      exact hn'.1 (dk_inj he ▸ hq)
    rw [putK_cons k1 v1 kvs k.k v hnk]
    simp only [dput]
    by_cases hx : k0 = k
    · subst hx
      rw [if_pos hk1, if_pos rfl]
      exact ⟨by simp [hk1, hk2], DRs.cons rd r2⟩
    · rw [if_neg fun e => hx (dk_inj (hk1 ▸ e)), if_neg hx]
      obtain ⟨q1, q2⟩ := dput_of hn'.2 hk2 r2 rd
      exact ⟨by simp [hk1, q1], DRs.cons r1 q2⟩
theorem putKT_cons (k0 : List Key) (v0 : V) (kvs : List (List Key × V)) (k : List Key) (v : V) (hn : k0 ∉ kvs.map (·.1)) : putK ((k0, v0) :: kvs) k v = if k0 = k then (k0, v) :: kvs else (k0, v0) :: putK kvs k v := by
  unfold putK
  by_cases hx : k0 = k
  · subst hx
    simp only [List.any_cons, decide_true, Bool.true_or, if_true, List.map_cons]
    congr 1
    conv => rhs; rw [← List.map_id kvs]
    apply List.map_congr_left
    intro kv hkv
    rw [if_neg (show ¬ kv.1 = k0 from fun e => hn (by rw [← e]; exact List.mem_map_of_mem hkv))]
    rfl
  · simp only [List.any_cons, hx, decide_false, Bool.false_or, if_false, List.map_cons]
    split
    · rfl
    · rfl
theorem dputT_of : ∀ {ks : List (List DKey)} {ds : List D} {kvs : List (List Key × V)} {k : List DKey} {d : D} {v : V}, ks.Nodup → kvs.map (·.1) = ks.map keyT → DRs K mg W ds (kvs.map (·.2)) → DR K mg W d v →
    (putK kvs (keyT k) v).map (·.1) = (dputT ks ds k d).1.map keyT ∧ DRs K mg W (dputT ks ds k d).2 ((putK kvs (keyT k) v).map (·.2))
  | [], ds, kvs, k, d, v, _, hk, r, rd => by
    have e : kvs = [] := by simpa using hk
    subst e
    exact ⟨rfl, DRs.one rd⟩
  | k0 :: ks, [], kvs, k, d, v, _, hk, r, rd => by
    simp only [DRs, List.map_eq_nil_iff] at r
    subst r; simp at hk
  | k0 :: ks, d0 :: ds, [], k, d, v, _, hk, r, rd => by simp at hk
  | k0 :: ks, d0 :: ds, (k1, v1) :: kvs, k, d, v, hn, hk, r, rd => by
    simp only [List.map_cons, List.cons.injEq] at hk
    simp only [List.map_cons, DRs] at r
    obtain ⟨v', l, e, r1, r2⟩ := r
    simp only [List.cons.injEq] at e
    obtain ⟨rfl, rfl⟩ := e
    obtain ⟨hk1, hk2⟩ := hk
    have hn' := List.nodup_cons.mp hn
    have hnk : k1 ∉ kvs.map (·.1) := by
      rw [hk1, hk2]
      intro hm
      obtain ⟨q, hq, he⟩ := List.mem_map.mp hm
      exact hn'.1 (keyT_inj he ▸ hq)
    rw [putKT_cons k1 v1 kvs (keyT k) v hnk]
    simp only [dputT]
    by_cases hx : k0 = k
    · subst hx
      rw [if_pos hk1, if_pos rfl]
      exact ⟨by simp [hk1, hk2], DRs.cons rd r2⟩
    · rw [if_neg fun e => hx (keyT_inj (hk1 ▸ e)), if_neg hx]
      obtain ⟨q1, q2⟩ := dputT_of hn'.2 hk2 r2 rd
      exact ⟨by simp [hk1, q1], DRs.cons r1 q2⟩
end
section
variable {X : Cx} {e i o : Expr} {to ti : Dl → Mu → Rs D} {pos : Pos}
theorem setD_ok {K : PySem.W.Frag} {mg : Str → Option Value} {W : Wd} {m m' : Mu} {xo xi xd : D} {vo vi vd : V} {Q : Hp → Prop} (S : Sim K mg W m) (ro : DR K mg W xo vo) (ri : DR K mg W xi vi) (rd : DR K mg W xd vd) (h : setD xo xi xd m = .ok () m')
    (q : ∀ W', Ext W W' → Sim K mg W' m' → Q W'.H) : rSetL vo vi vd W.H Q ∨ rSetD vo vi vd W.H Q := by
  unfold setD at h
  split at h
  · rename_i r
    simp only [DR] at ro
    obtain ⟨a, rfl, ha⟩ := ro
    split at h
    · rename_i ds hm
      obtain ⟨u, hu, vs, rfl, rs⟩ := S.cell r a _ ha hm (by intro z; cases z)
      have hl : W.lv a := (S.lv r a ha).mpr ⟨_, hm, by intro z; cases z⟩
      split at h
      · rename_i k
        split at h
        · rename_i j hj
          cases h
          simp only [DR] at ri
          refine .inl ⟨a, vs, k, j, rfl, ri, hu, by rw [rs.len]; exact hj, ?_⟩
          exact q (W.put a (.lst (vs.set j vd))) (Ext.put hl) (S.put (c := .lst (ds.set j xd)) ha hm (by intro z; cases z) (by intro z; cases z) ⟨_, rfl, rs.set j rd⟩)
        · cases h
      · cases h
    · rename_i ks ds hm
      obtain ⟨u, hu, kvs, rfl, hk, rs⟩ := S.cell r a _ ha hm (by intro z; cases z)
      have hl : W.lv a := (S.lv r a ha).mpr ⟨_, hm, by intro z; cases z⟩
      split at h
      · rename_i k hkk
        split at h
        · rename_i hz
          cases h
          obtain ⟨q1, q2⟩ := dput_of (k := k) hz.2 hk rs rd
          refine .inr ⟨a, _, rfl, .inl ⟨kvs, k.k, hu, dkey_of ri hkk, ?_, rfl⟩, ?_⟩
          · have := congrArg List.length hk
            simp only [List.length_map] at this
            rw [this, SZ_eq]; exact hz.1
          · exact q (W.put a (.dK (putK kvs k.k vd))) (Ext.put hl) (S.put (c := .dct _ _) ha hm (by intro z; cases z) (by intro z; cases z) ⟨_, rfl, q1, q2⟩)
        · cases h
      · cases h
    · rename_i ks ds hm
      obtain ⟨u, hu, kvs, rfl, hk, rs⟩ := S.cell r a _ ha hm (by intro z; cases z)
      have hl : W.lv a := (S.lv r a ha).mpr ⟨_, hm, by intro z; cases z⟩
      split at h
      · rename_i k hkk
        split at h
        · rename_i hz
          cases h
          obtain ⟨q1, q2⟩ := dputT_of (k := k) hz.2 hk rs rd
          obtain ⟨b, eb, hb⟩ := dkeyT_of ri hkk
          refine .inr ⟨a, _, rfl, .inr ⟨kvs, keyT k, b, hu, eb, hb, ?_, rfl⟩, ?_⟩
          · have := congrArg List.length hk
            simp only [List.length_map] at this
            rw [this, SZ_eq]; exact hz.1
          · exact q (W.put a (.dT (putK kvs (keyT k) vd))) (Ext.put hl) (S.put (c := .dctT _ _) ha hm (by intro z; cases z) (by intro z; cases z) ⟨_, rfl, q1, q2⟩)
        · cases h
      · cases h
    · cases h
  · cases h
theorem g2_sub (hu : X.A.units + 1 < cLine) (ho : E2 X Wx0 o to) (hi : E2 X Wx0 i ti) (ha : ∀ v, assign (.Subscript o i pos) X.env v = (do
      let ov ← holding [v] (eval o X.env)
      let iv ← holding [v, ov] (eval i X.env)
      standAt pos
      holding [v, ov, iv] (setItem ov iv v)
      release [v, ov, iv] []) := by intro _; rfl) : G2 X (.Subscript o i pos) [] (subG to ti) :=
  PG.wk (pg_sub ho hi (PSet.or set_list (set_dict hu)) ha) fun v σ H Q ⟨W, d, δ, m, e, S, N, r, h⟩ => by
    unfold subG at h
    refine ⟨W, δ, m, e, S, N, ?_⟩
    cases h1 : to δ m with
    | exc c ns vs m' => rw [h1] at h; exact h.elim
    | bad => rw [h1] at h; exact h.elim
    | ok xo m1 =>
      rw [h1] at h
      simp only [Rs.nx_ok] at h
      refine fun vo W1 x1 S1 r1 => ⟨W1, δ, m1, rfl, S1, N.mono (x1.keep S), ?_⟩
      cases h2 : ti δ m1 with
      | exc c ns vs m' => rw [h2] at h; exact h.elim
      | bad => rw [h2] at h; exact h.elim
      | ok xi m2 =>
        rw [h2] at h
        simp only [Rs.nx_ok] at h
        refine fun vi W2 x2 S2 r2 => ?_
        cases h3 : setD xo xi d m2 with
        | exc c ns vs m' => rw [h3] at h; exact h.elim
        | bad => rw [h3] at h; exact h.elim
        | ok _ m3 =>
          rw [h3] at h
          simp only [Rs.nx_ok] at h
          refine setD_ok S2 (r1.mono (x2.keep S1)) r2 ((r.mono (x1.keep S)).mono (x2.keep S1)) h3 fun W3 x3 S3 => ?_
          exact h σ W3 ⟨rfl, fun _ _ => rfl⟩ (x1.trans (x2.trans x3)) S3 (N.mono ((x1.keep S).trans ((x2.keep S1).trans (x3.keep S2))))
/-! a, b = e1, e2 -/
def par2 (i j : Nat) (tr : Dl → Mu → Rs (List D)) : Dl → Mu → Ro := fun δ m => (tr δ m).thn δ fun ds m => match ds with
  | [x, y] => .next ((δ.set i (some x)).set j (some y)) m
  | _ => .bad
theorem s2_par {Wx : WX} {i j : Nat} {x y : Str} {a b : Expr} {tr : Dl → Mu → Rs (List D)} {px py pt : Pos} {kt k2 pt2} (hc : X.calm = true) (hN : X.N.Nodup) (hi : X.N[i]? = some x) (hj : X.N[j]? = some y) (hij : i ≠ j)
    (hx : X.env.scope.names.lookup x = some .local) (hy : X.env.scope.names.lookup y = some .local) (ha : A2 X Wx [a, b] tr)
    (hw : swappedStores [.Tuple [.Name x px, .Name y py] kt pt] (.Tuple [a, b] k2 pt2) X.env = pure (some [x, y]))
    (hs : swapsWithSole [.Tuple [.Name x px, .Name y py] kt pt] (.Tuple [a, b] k2 pt2) pos.line X.env = pure false := by rfl) :
    S2 X Wx (.Assign [.Tuple [.Name x px, .Name y py] kt pt] (.Tuple [a, b] k2 pt2) pos) (par2 i j tr) :=
  PS.wk (ps_par hc hN hi hj hij hx hy ha hw hs) fun E σ H ⟨W, δ, m, e, S, N, h⟩ => ⟨W, δ, m, e, S, N, (Post.thn S N h).mono fun vs H1 ⟨W1, m1, ds, e1, x1, S1, N1, r1, h1⟩ => by
    subst e1
    split at h1
    · simp only [DRs] at r1
      obtain ⟨v, _, rfl, r1, w, _, rfl, r2, rfl⟩ := r1
      exact ⟨v, w, rfl, h1 _ W1 Ext.refl S1 ((N1.set r1).set r2)⟩
    · exact h1.elim⟩
end
/-! ### attributes -/
def lkf : List String → List D → String → Option D
  | n :: ns, v :: vs, f => if n = f then some v else lkf ns vs f
  | _, _, _ => none
def putf : List String → List D → String → D → List String × List D
  | n :: ns, v :: vs, f, d => if n = f then (n :: ns, d :: vs) else let r := putf ns vs f d; (n :: r.1, v :: r.2)
  | _, _, f, d => ([f], [d])
def fldD (cs : List String) (f : String) (x : D) (m : Mu) : Rs D := match look m x with
  | .ins c ns ds => if c ∈ cs then match lkf ns ds f with | some d => .ok d m | none => .bad else .bad
  | _ => .bad
def setFD (cs : List String) (f : String) (x d : D) (m : Mu) : Rs Unit := match x with
  | .ref r => match m[r]? with
    | some (.ins c ns ds) => if c ∈ cs ∧ ns.length < 900 then .ok () (m.set r (.ins c (putf ns ds f d).1 (putf ns ds f d).2)) else .bad
    | _ => .bad
  | _ => .bad
/-- the classes of cs have no attribute f of their own -/
def FldOk (K : PySem.W.Frag) (mg : Str → Option Value) (cs : List String) (f : String) : Prop := ∀ c ∈ cs, ∀ C, mg (nm c) = some (.ref C) → Cls K C ∧ NoAttr K C (nm f)
section
variable {K : PySem.W.Frag} {mg : Str → Option Value} {W : Wd} {m : Mu}
theorem lkf_of : ∀ {ns : List String} {ds : List D} {fs : List (Str × V)} {f : String} {d : D}, fs.map (·.1) = ns.map nm → DRs K mg W ds (fs.map (·.2)) → lkf ns ds f = some d → ∃ v, fs.lookup (nm f) = some v ∧ DR K mg W d v
  | [], ds, fs, f, d, hk, r, h => by simp [lkf] at h
  | n :: ns, [], fs, f, d, hk, r, h => by simp [lkf] at h
  | n :: ns, d0 :: ds, [], f, d, hk, r, h => by simp at hk
  | n :: ns, d0 :: ds, (x, v) :: fs, f, d, hk, r, h => by
    simp only [List.map_cons, List.cons.injEq] at hk
    simp only [List.map_cons, DRs] at r
    obtain ⟨v', l, e, r1, r2⟩ := r
    simp only [List.cons.injEq] at e
    obtain ⟨rfl, rfl⟩ := e
    obtain ⟨rfl, hk2⟩ := hk
    simp only [lkf] at h
    by_cases hx : n = f
    · subst hx
      rw [if_pos rfl] at h
      cases h
      exact ⟨v, by simp [List.lookup], r1⟩
    · rw [if_neg hx] at h
      obtain ⟨u, hu, ru⟩ := lkf_of hk2 r2 h
      have : (nm f == nm n) = false := by
        rw [beq_eq_false_iff_ne]
        exact fun e => hx (nm_inj e).symm
      exact ⟨u, by simp only [List.lookup, this]; exact hu, ru⟩
theorem putf_of : ∀ {ns : List String} {ds : List D} {fs : List (Str × V)} {f : String} {d : D} {v : V}, fs.map (·.1) = ns.map nm → DRs K mg W ds (fs.map (·.2)) → DR K mg W d v →
    (putF (nm f) v fs).map (·.1) = (putf ns ds f d).1.map nm ∧ DRs K mg W (putf ns ds f d).2 ((putF (nm f) v fs).map (·.2))
  | [], ds, fs, f, d, v, hk, r, rd => by
    have e : fs = [] := by simpa using hk
    subst e
    exact ⟨rfl, DRs.one rd⟩
  | n :: ns, [], fs, f, d, v, hk, r, rd => by
    simp only [DRs, List.map_eq_nil_iff] at r
    subst r; simp at hk
  | n :: ns, d0 :: ds, [], f, d, v, hk, r, rd => by simp at hk
  | n :: ns, d0 :: ds, (x, v0) :: fs, f, d, v, hk, r, rd => by
    simp only [List.map_cons, List.cons.injEq] at hk
    simp only [List.map_cons, DRs] at r
    obtain ⟨v', l, e, r1, r2⟩ := r
    simp only [List.cons.injEq] at e
    obtain ⟨rfl, rfl⟩ := e
    obtain ⟨rfl, hk2⟩ := hk
    simp only [putf, putF]
    by_cases hx : n = f
    · subst hx
      rw [if_pos rfl, if_pos rfl]
      exact ⟨by simp [hk2], DRs.cons rd r2⟩
    · rw [if_neg hx, if_neg fun e => hx (nm_inj e)]
      obtain ⟨q1, q2⟩ := putf_of (f := f) hk2 r2 rd
      exact ⟨by simp [q1], DRs.cons r1 q2⟩
end
section
variable {X : Cx} {Wx : WX} {e o : Expr} {ta to : Dl → Mu → Rs D} {pos pos' : Pos} {cs : List String}
def fld2 (cs : List String) (f : String) (ta : Dl → Mu → Rs D) : Dl → Mu → Rs D := fun δ m => (ta δ m).bind (fldD cs f)
theorem e2_fld {f : String} {fn : Str} (hc : FldOk X.K X.mg cs f) (he : E2 X Wx e ta) (hf : fn = nm f := by rfl) (hb : attributeBase e fn X.env (eval e X.env) = eval e X.env := by rfl) : E2 X Wx (.Attribute e fn pos) (fld2 cs f ta) :=
  PE.wk (pe_fld he hb) fun σ H Q ⟨W, δ, m, e, S, N, h⟩ => ⟨W, δ, m, e, S, N, (Post.bind h).mono fun v H1 ⟨W1, m1, x, e1, x1, S1, r1, h1⟩ => by
    subst e1
    have q := look_rd S1 r1
    unfold fldD at h1
    split at h1
    · rename_i c ns ds hx
      rw [hx] at q
      obtain ⟨a, C, dx, fs, rfl, ha, hm, hk, rs⟩ := q
      split at h1
      · rename_i hcs
        split at h1
        · rename_i d hd
          obtain ⟨u, hu, ru⟩ := lkf_of hk rs hd
          obtain ⟨q1, q2⟩ := hc c hcs C hm
          subst hf
          exact ⟨a, C, dx, fs, u, rfl, ha, q1, q2, hu, fin S1 h1 ru⟩
        · exact h1.elim
      · exact h1.elim
    · exact h1.elim⟩
def setF2 (cs : List String) (f : String) (to ta : Dl → Mu → Rs D) : Dl → Mu → Ro := fun δ m => (ta δ m).thn δ fun d m => (to δ m).thn δ fun o m => (setFD cs f o d m).thn δ fun _ m => .next δ m
theorem s2_fld {f : String} {fn : Str} (hc : FldOk X.K X.mg cs f) (ho : E2 X Wx o to) (hv : E2 X Wx e ta) (hf : fn = nm f := by rfl) (hs : swapsWith e (some (.Attribute o fn pos')) pos.line X.env = pure false := by rfl) : S2 X Wx (.Assign [.Attribute o fn pos'] e pos) (setF2 cs f to ta) :=
  PS.wk (ps_fld ho hv hs) fun E σ H ⟨W, δ, m, e, S, N, h⟩ => ⟨W, δ, m, e, S, N, (Post.thn S N h).mono fun v H1 ⟨W1, m1, d, e1, x1, S1, N1, r1, h1⟩ => ⟨W1, δ, m1, e1, S1, N1, (Post.thn S1 N1 h1).mono fun vo H2 ⟨W2, m2, xo, e2, x2, S2, N2, r2, h2⟩ => by
    subst e2
    unfold setFD at h2
    split at h2
    · rename_i r
      simp only [DR] at r2
      obtain ⟨a, rfl, ha⟩ := r2
      split at h2
      · rename_i c ns ds hm
        obtain ⟨u, hu, C, dx, fs, rfl, hmc, hk, rs⟩ := S2.cell r a _ ha hm (by intro z; cases z)
        have hl : W2.lv a := (S2.lv r a ha).mpr ⟨_, hm, by intro z; cases z⟩
        split at h2
        · rename_i hcs
          obtain ⟨q1, q2⟩ := hc c hcs.1 C hmc
          obtain ⟨p1, p2⟩ := putf_of (f := f) hk rs (r1.mono (x2.keep S1))
          subst hf
          refine ⟨a, C, dx, fs, rfl, hu, q1, q2, ?_, ?_⟩
          · have := congrArg List.length hk
            simp only [List.length_map] at this
            rw [this]; exact Nat.lt_trans hcs.2 (by decide)
          · simp only [Rs.thn_ok] at h2
            exact h2 σ (W2.put a (.ins C dx (putF (nm f) v fs))) (Ext.put hl) (S2.put (c := .ins c _ _) ha hm (by intro z; cases z) (by intro z; cases z) ⟨C, dx, _, rfl, hmc, p1, p2⟩) (N2.mono (Keep.put (S2.own a hl)))
        · exact h2.elim
      · exact h2.elim
    · exact h2.elim⟩⟩
end
end Dn
set_option Elab.async false
set_option linter.all false
set_option maxRecDepth 100000
set_option maxHeartbeats 2000000
namespace Dn
open PySem PySem.Spec PyProof.Rows L2
/-! ### defs -/
/-- room for k calls, nothing is handled, nothing is told by a text -/
structure Rm (k : Nat) (A : Around) : Prop where
  r : Room k A
  gd : A.guards = some []
theorem Rm.mono {j k : Nat} {A : Around} (r : Rm k A) (h : j ≤ k) : Rm j A := ⟨r.r.mono h, r.gd⟩
theorem Rm.deeper {k : Nat} {A : Around} (r : Rm (k + 1) A) (env : Env) : Rm k (A.deeper env) := ⟨r.r.deeper env, r.gd⟩
theorem Rm.make {k : Nat} {A : Around} (r : Rm (k + 1) A) (C : Addr) (us : List Value) (kw : List (Str × Value)) : Rm k (A.under (.builtin "type.__call__" ⟨.ref C :: us, kw⟩)) := ⟨r.r.make C us kw, by
  have h := r.gd
  first
    | exact h
    | (simp [Around.under, Code.isGuard, guardIds, h])⟩
theorem Rm.in1 {k : Nat} {A : Around} (r : Rm (k + 1) A) : Rm k A.in1 := ⟨r.r.in1, r.gd⟩
theorem Rm.u1 {k : Nat} {A : Around} (r : Rm k A) : A.units + 1 < cLine := by have := r.r.un; omega
theorem Rm.u64 {k : Nat} {A : Around} (r : Rm k A) : A.units + 64 < cLine := by have := r.r.un; omega
theorem Rm.u65 {k : Nat} {A : Around} (r : Rm k A) : A.units + 65 < cLine := by have := r.r.un; omega
theorem Rm.u0 {k : Nat} {A : Around} (r : Rm k A) : A.units < cLine := by have := r.r.un; omega
abbrev FnD := List D → Mu → Rs D
def spD (K : PySem.W.Frag) (mg : Str → Option Value) (n : Nat) (F : FnD) : Sp := fun vs H Q E => vs.length = n ∧ ∃ W ds m, W.H = H ∧ Sim K mg W m ∧ DRs K mg W ds vs ∧ Post K mg (fun W => DR K mg W) E W Q (F ds m)
structure FD (P : Program) (w : World) (K : PySem.W.Frag) (mg : Str → Option Value) (base : Heap) (k : Nat) (f : Addr) (fd : FuncData) (ps : List Str) (F : FnD) : Prop where
  len : ∀ ds m, ds.length ≠ ps.length → F ds m = .bad
  run : ∀ (A : Around) (outer : List Env) (s : Shared) (H : Hp) (args : Args) (us : List Value) (vs : List V) (Q : VK) (E : XK), Rm k A → Env0 P w K mg base A outer s H → BindsTo s fd args (ps.zip us) → Vals vs us → spD K mg ps.length F vs H Q E →
    codeAny (model P w) A (.call (.ref f) args) (L2.CR (L2.CX P w) outer P w H s Q E) s
theorem FD.mono {P : Program} {w : World} {K : PySem.W.Frag} {mg : Str → Option Value} {base : Heap} {j k : Nat} {f : Addr} {fd : FuncData} {ps : List Str} {F : FnD} (h : FD P w K mg base j f fd ps F) (hk : j ≤ k) : FD P w K mg base k f fd ps F :=
  ⟨h.len, fun A outer s H args us vs Q E hr => h.run A outer s H args us vs Q E (hr.mono hk)⟩
def start2 (N : Nat) (ds : List D) : Dl := ds.map some ++ List.replicate (N - ds.length) none
def fnD (N n : Nat) (tb : Dl → Mu → Ro) : FnD := fun ds m => if ds.length = n then match tb (start2 N ds) m with
    | .next _ m => .ok .non m
    | .ret d m => .ok d m
    | .exc c ns vs _ m => .exc c ns vs m
    | _ => .bad
  else .bad
theorem start_en {K : PySem.W.Frag} {mg : Str → Option Value} {W : Wd} {ds : List D} {vs : List V} (N : List Str) (r : DRs K mg W ds vs) : En K mg W (L2.start N vs) (start2 N.length ds) := by
  unfold L2.start start2
  rw [r.len]
  refine ⟨by simp [r.len], fun i d h => ?_⟩
  by_cases hi : i < ds.length
  · rw [List.getElem?_append_left (by simpa using hi)] at h
    simp only [List.getElem?_map, Option.map_eq_some_iff, Option.some.injEq, exists_eq_right] at h
    obtain ⟨v, hv, rv⟩ := r.get h
    refine ⟨v, ?_, rv⟩
    rw [List.getElem?_append_left (by rw [List.length_map, r.len]; exact hi)]
    simp [hv]
  · rw [List.getElem?_append_right (by simpa using hi)] at h
    rw [List.getElem?_replicate] at h
    split at h <;> cases h
theorem Fun.okD {P : Program} {w : World} {K : PySem.W.Frag} {mg : Str → Option Value} {base : Heap} {x qual : Str} {st : Stmt} {f : Addr} {fd : FuncData} {N ps : List Str} {k : Nat} {tb : Dl → Mu → Ro} (F : Fun K x qual st f fd) (S : FnScope N ps (defScope st))
    (hbody : ∀ (cdv : Value) (A : Around) (outer : List Env) (s : Shared) (H : Hp) (E : XK), Rm k (A.deeper (envOfC qual (defScope st) s.heap.objs.size f cdv)) →
      SS2 (cxOf (L2.CX P w) P w K mg base N qual (defScope st) f cdv A outer s H E) (fun cls d _ H => E cls d H) (defBody st) tb) : FD P w K mg base (k + 1) f fd ps (fnD N.length ps.length tb) := by
  obtain ⟨oc, od, kV, doc, pm, an, cdv, ct, osl, rfl, lk, hcd⟩ := F.ex
  refine ⟨fun ds m hn => if_neg hn, fun A outer s H args us vs Q E hr e0 hb r hsp => ?_⟩
  obtain ⟨hl, W, ds, m, eH, SS, rs, hp⟩ := hsp
  have KX : K.In s.heap := e0.mod.kin.keeps fun b o e => (e0.bs b o e).1
  have lim : s.heap.NoLimit := e0.mod.nolimit.keeps fun b o e => (e0.bs b o e).1
  have hkind : ∀ y ∈ ps.zip us, (defScope st).names.lookup y.1 = some .local ∨ ((defScope st).names.lookup y.1 = some .cell ∧ ((cellsFrom (s.heap.objs.size + 1) (defScope st).names []).lookup y.1).isSome = true) := fun ⟨n, v⟩ hy => by
    rcases S.par n (List.of_mem_zip hy).1 with q | q
    · exact .inl q
    · exact .inr ⟨q, PySem.W.cellsFrom_some _ _ _ (.inl q)⟩
  refine codeAny_call_function hr.r.depth (KX _ _ lk) rfl S.co S.gen rfl (PySem.W.codeRec_of KX hcd) (hb _ _ _ _ ?_)
  refine wpAny_newFunctionEnv_cells S.kind hkind fun env he s1 x => ?_
  subst he
  refine ⟨lim.keeps x.toInCall.keep, codeAny_func ?_⟩
  have ht := hbody cdv A outer s H E (hr.deeper _)
  have I : Inv (cxOf (L2.CX P w) P w K mg base N qual (defScope st) f cdv A outer s H E) [] (L2.start N vs) H s1 := inv_start S hr.r.hd e0 hl r x
  have hq : PostS K mg (fun cls d _ H => E cls d H) W { nx := fun _ H' => Q .non H', rt := Q } (tb (start2 N.length ds) m) := by
    unfold fnD at hp
    have hdl : ds.length = ps.length := by rw [← rs.len]; exact hl
    rw [if_pos hdl] at hp
    cases hz : tb (start2 N.length ds) m with
    | next δ m' => rw [hz] at hp; exact fun σ W' e S N => hp .non W' e S (by simp only [DR])
    | ret d m' => rw [hz] at hp; exact hp
    | brk δ m' => rw [hz] at hp; exact hp.elim
    | cnt δ m' => rw [hz] at hp; exact hp.elim
    | exc c ns vs δ m' => rw [hz] at hp; exact fun σ cls d W' e S _ r => hp cls d W' e S r
    | bad => rw [hz] at hp; exact hp.elim
  refine wpAny_mono (ht.run [] s1 (L2.start N vs) H _ I ⟨W, _, m, eH, SS, start_en N rs, hq⟩) (fun fl s' hs => ?_) fun e s' hs => hs
  have fin : ∀ {σ' : L2.St} {H' : Hp} {v : V} {u : Value}, Inv (cxOf (L2.CX P w) P w K mg base N qual (defScope st) f cdv A outer s H E) [] σ' H' s' → RelV v u → Q v H' → CE outer P w H s Q u s' :=
    fun {σ' H' v u} J rv q => ⟨v, H', J.os, J.bare, J.base, J.hok, rv, q⟩
  cases fl with
  | ret u =>
    obtain ⟨v, σ', H', J, rv, q⟩ := hs
    exact fin J rv q
  | next =>
    obtain ⟨σ', H', J, q⟩ := hs
    exact fin (v := V.non) (u := Value.none) J rfl q
  | brk =>
    obtain ⟨_, _, _, q⟩ := hs
    exact False.elim q
  | cont =>
    obtain ⟨_, _, _, q⟩ := hs
    exact False.elim q
theorem FD.sp_of {P : Program} {w : World} {K : PySem.W.Frag} {mg : Str → Option Value} {base : Heap} {k : Nat} {f : Addr} {fd : FuncData} {ps : List Str} {F : FnD} {W W1 : Wd} {ds : List D} {vs : List V} {m : Mu} {Q : VK} {E : XK} (h : FD P w K mg base k f fd ps F)
    (S : Sim K mg W1 m) (r : DRs K mg W1 ds vs) (hp : Post K mg (fun W => DR K mg W) E W Q (F ds m)) (x : Ext W W1) : spD K mg ps.length F vs W1.H Q E := by
  by_cases hl : ds.length = ps.length
  · exact ⟨by rw [r.len]; exact hl, W1, ds, m, rfl, S, r, Post.ext hp x⟩
  · rw [h.len ds m hl] at hp
    exact hp.elim
/-! ### calls -/
section
variable {X : Cx} {Wx : WX} {k : Nat} {f C : Addr} {fd : FuncData} {ps : List Str} {F : FnD} {x m : Str} {p pos apos : Pos} {e o : Expr} {es : List Expr} {ta : Dl → Mu → Rs D} {tr : Dl → Mu → Rs (List D)}
/-- the callee runs -/
theorem run_D {pins : List (Addr × Obj)} {σ : L2.St} {H : Hp} {s : Shared} {Q : VK} {us : List Value} {vs : List V} (h : FD X.prog X.w X.K X.mg X.base k f fd ps F) (hr : Rm k X.A) (hb : Binds X.K fd ps []) (tk : Takes X Wx)
    (I : Inv X pins σ H s) (r : Vals vs us) (hs : spD X.K X.mg ps.length F vs H Q (WE Wx σ)) : wpAny (model X.prog X.w) X.A (call (.ref f) us) (EP X pins σ Q) X.xe s := by
  have hl : us.length = ps.length := by rw [← r.length]; exact hs.1
  refine wpAny_call (codeAny_mono (h.run X.A X.stack s H ⟨us, []⟩ us vs Q (WE Wx σ) hr I.env0 (by have := hb s us I.kIn (by simpa using hl); simpa using this) r hs) fun r s' hq => ?_)
  cases r with
  | error e => exact passAt tk σ pins H s e s' I hq
  | ok fl =>
    cases fl with
    | ret u => exact I.after hq
    | next => exact False.elim hq
    | brk => exact False.elim hq
    | cont => exact False.elim hq
theorem e2_call (h : FD X.prog X.w X.K X.mg X.base k f fd ps F) (hr : Rm k X.A) (tk : Takes X Wx) (hm : X.mg x = some (.ref f)) (hk : PySem.W.keepIn X.K (.ref f) = true) (hb : Binds X.K fd ps []) (ha : A2 X Wx (e :: es) tr)
    (hg : Gl X x := by rfl) (hdb : (x == ("__debug__" : Str)) = false := by decide) (he : starEach (e :: es) X.env = (false, eval e X.env) :: starEach es X.env := by rfl) (hpl : (backTo pos (starEach es X.env)).any (·.1) = false := by rfl) :
    E2 X Wx (.Call (.Name x p) (e :: es) [] pos) (on2 F tr) := by
  refine ⟨fun pins s σ H Q I h0 => ?_⟩
  obtain ⟨W, δ, m, eH, S, N, hp⟩ := h0
  refine wpAny_Call_Name_kw (ld_glob I hg hm ?_ hdb)
  refine PySem.W.callWith_K (h₀ := X.base) I.ok.mod.kin hk (thn (ha.run pos pins s σ H _ I ⟨W, δ, m, eH, S, N, ?_⟩) fun us s1 ⟨vs, H1, I1, r, q⟩ => ⟨I1.kIn, run_D h hr hb tk I1 r q⟩) he hpl
  cases ht : tr δ m with
  | bad => unfold on2 at hp; rw [ht] at hp; exact hp.elim
  | exc c ns vs m' => unfold on2 at hp; rw [ht] at hp; exact hp
  | ok ds m' =>
    unfold on2 at hp
    rw [ht] at hp
    intro vs W1 x1 S1 r1
    exact h.sp_of S1 r1 hp x1
end
end Dn
set_option Elab.async false
set_option linter.all false
set_option maxRecDepth 100000
set_option maxHeartbeats 2000000
namespace Dn
open PySem PySem.Spec PyProof.Rows L2
/-! ### a cell is frozen: nobody will change it -/
def frzD (r : Nat) (m : Mu) : Rs D := match m[r]? with
  | some (.lst ds) => .ok (.lst ds) (m.set r .dead)
  | some (.dct ks ds) => .ok (.dct ks ds) (m.set r .dead)
  | some (.ins c ns ds) => .ok (.ins c ns ds) (m.set r .dead)
  | _ => .bad
def Wd.frz (W : Wd) (a : Addr) : Wd := { W with lv := fun b => W.lv b ∧ b ≠ a, O := fun b => W.O b ∧ b ≠ a }
section
variable {K : PySem.W.Frag} {mg : Str → Option Value} {W : Wd} {m : Mu}
theorem Keep.frz {a : Addr} : Keep W (W.frz a) := ⟨⟨[], by simp [Wd.frz]⟩, fun b u e n => ⟨e, fun z => n z.1⟩⟩
theorem Ext.frz {a : Addr} (hl : W.lv a) : Ext W (W.frz a) := ⟨⟨[], by simp [Wd.frz]⟩, fun b u e n => ⟨e, fun z => n z.1⟩, fun b _ n z => n z.1, fun b _ h n => ⟨h, fun z => n (z ▸ hl)⟩, fun b h => h⟩
theorem Sim.frz {a : Addr} {r : Nat} {c : Cell} (S : Sim K mg W m) (ha : W.al[r]? = some a) (hm : m[r]? = some c) : Sim K mg (W.frz a) (m.set r .dead) := by
  have hl : r < m.length := (List.getElem?_eq_some_iff.mp hm).1
  refine ⟨by rw [List.length_set]; exact S.len, S.nd, S.trk, fun b z => ⟨S.own b z.1, z.2⟩, fun r' b e => ?_, fun b z => S.lva b z.1, fun r' b c' e1 e2 e3 => ?_, fun b hb vs => S.ot b hb.1 vs⟩
  · show (W.lv b ∧ b ≠ a) ↔ _
    by_cases hx : r = r'
    · subst hx
      rw [List.getElem?_set_self hl]
      have : b = a := Option.some.inj ((show W.al[r]? = some b from e).symm.trans ha)
      exact ⟨fun z => absurd this z.2, fun ⟨c, h1, h2⟩ => by cases h1; exact absurd rfl h2⟩
    · rw [List.getElem?_set_ne hx]
      have hb : b ≠ a := fun z => hx (nd_get S.nd ha (z ▸ e))
      exact ⟨fun z => (S.lv r' b e).mp z.1, fun z => ⟨(S.lv r' b e).mpr z, hb⟩⟩
  · by_cases hx : r = r'
    · subst hx
      rw [List.getElem?_set_self hl] at e2
      cases e2
      exact absurd rfl e3
    · rw [List.getElem?_set_ne hx] at e2
      obtain ⟨u, eu, hu⟩ := S.cell r' b c' e1 e2 e3
      exact ⟨u, eu, hu.mono Keep.frz⟩
theorem frz_post {r : Nat} {a : Addr} {Wx : Value → Option Addr → Hp → Prop} {Q : VK} (S : Sim K mg W m) (ha : W.al[r]? = some a) (h : Post K mg (fun W => DR K mg W) Wx W Q (frzD r m)) : Q (.ref a) W.H := by
  unfold frzD at h
  split at h
  · rename_i ds hm
    obtain ⟨o, ho, vs, rfl, rs⟩ := S.cell r a _ ha hm (by intro z; cases z)
    have hl : W.lv a := (S.lv r a ha).mpr ⟨_, hm, by intro z; cases z⟩
    exact h (.ref a) (W.frz a) (Ext.frz hl) (S.frz ha hm) (by simp only [DR]; exact ⟨a, vs, rfl, ho, fun z => z.2 rfl, rs.mono Keep.frz⟩)
  · rename_i ks ds hm
    obtain ⟨o, ho, kvs, rfl, hk, rs⟩ := S.cell r a _ ha hm (by intro z; cases z)
    have hl : W.lv a := (S.lv r a ha).mpr ⟨_, hm, by intro z; cases z⟩
    exact h (.ref a) (W.frz a) (Ext.frz hl) (S.frz ha hm) (by simp only [DR]; exact ⟨a, kvs, rfl, ⟨.inl ho, fun z => z.2 rfl⟩, hk, rs.mono Keep.frz⟩)
  · rename_i c ns ds hm
    obtain ⟨o, ho, C, dx, fs, rfl, hc, hf, rs⟩ := S.cell r a _ ha hm (by intro z; cases z)
    have hl : W.lv a := (S.lv r a ha).mpr ⟨_, hm, by intro z; cases z⟩
    exact h (.ref a) (W.frz a) (Ext.frz hl) (S.frz ha hm) (by simp only [DR]; exact ⟨a, C, dx, fs, rfl, ho, fun z => z.2 rfl, hc, hf, rs.mono Keep.frz⟩)
  · exact h.elim
end
def frz2D (x : D) (m : Mu) : Rs D := match x with | .ref r => frzD r m | x => .ok x m
section
variable {X : Cx} {Wx : WX} {k : Nat} {f C : Addr} {fd : FuncData} {ps : List Str} {F : FnD} {x mn : Str} {p pos apos : Pos} {e o : Expr} {es : List Expr} {ta : Dl → Mu → Rs D} {tr : Dl → Mu → Rs (List D)}
/-- e, and what it is stays as it is from now on -/
theorem e2_frz (he : E2 X Wx e ta) : E2 X Wx e (un2 frz2D ta) := PE.wk he fun σ H Q ⟨W, δ, m, e, S, N, h⟩ => ⟨W, δ, m, e, S, N, (Post.bind h).mono fun v H1 ⟨W1, m1, x, e1, x1, S1, r1, h1⟩ => by
    subst e1
    unfold frz2D at h1
    split at h1
    · simp only [DR] at r1
      obtain ⟨a, rfl, ha⟩ := r1
      exact frz_post S1 ha h1
    · exact fin S1 h1 r1⟩
/-! ### no arguments -/
theorem e2_call0 (h : FD X.prog X.w X.K X.mg X.base k f fd ps F) (hr : Rm k X.A) (tk : Takes X Wx) (hm : X.mg x = some (.ref f)) (hk : PySem.W.keepIn X.K (.ref f) = true) (hb : Binds X.K fd ps [])
    (hg : Gl X x := by rfl) (hdb : (x == ("__debug__" : Str)) = false := by decide) : E2 X Wx (.Call (.Name x p) [] [] pos) (on2 F nil2) := by
  refine ⟨fun pins s σ H Q I h0 => ?_⟩
  obtain ⟨W, δ, m, eH, S, N, hp⟩ := h0
  subst eH
  refine wpAny_Call_Name_kw (ld_glob I hg hm ?_ hdb)
  exact PySem.W.callWith_K0 I.kIn hk (run_D (us := []) h hr hb tk I .nil (h.sp_of S DRs.nil hp Ext.refl))
end
/-! ### by position and by name -/
/-- values by their places -/
def pick {α : Type} (p : List Nat) (xs : List α) : List α := p.filterMap fun i => xs[i]?
theorem paired_len {α β : Type} {R : α → β → Prop} : ∀ {xs : List α} {ys : List β}, Paired R xs ys → xs.length = ys.length
  | _, _, .nil => rfl
  | _, _, .cons _ t => congrArg Nat.succ (paired_len t)
theorem paired_at {α β : Type} {R : α → β → Prop} : ∀ {xs : List α} {ys : List β} (i : Nat), Paired R xs ys → (xs[i]? = none ∧ ys[i]? = none) ∨ ∃ x y, xs[i]? = some x ∧ ys[i]? = some y ∧ R x y
  | _, _, i, .nil => .inl ⟨rfl, rfl⟩
  | _, _, 0, .cons h _ => .inr ⟨_, _, rfl, rfl, h⟩
  | _, _, i + 1, .cons _ t => by simpa using paired_at i t
theorem paired_pick {α β : Type} {R : α → β → Prop} {xs : List α} {ys : List β} (h : Paired R xs ys) : ∀ p, Paired R (pick p xs) (pick p ys)
  | [] => .nil
  | i :: p => by
    unfold pick
    rcases paired_at i h with ⟨e1, e2⟩ | ⟨x, y, e1, e2, r⟩
    · rw [List.filterMap_cons_none e1, List.filterMap_cons_none e2]; exact paired_pick h p
    · rw [List.filterMap_cons_some e1, List.filterMap_cons_some e2]; exact .cons r (paired_pick h p)
theorem DRs.pick {K : PySem.W.Frag} {mg : Str → Option Value} {W : Wd} {ds : List D} {vs : List V} (r : DRs K mg W ds vs) : ∀ p, DRs K mg W (Dn.pick p ds) (Dn.pick p vs)
  | [] => DRs.nil
  | i :: p => by
    unfold Dn.pick
    cases hd : ds[i]? with
    | none =>
      have hv : vs[i]? = none := List.getElem?_eq_none (r.len ▸ List.getElem?_eq_none_iff.mp hd)
      rw [List.filterMap_cons_none hd, List.filterMap_cons_none hv]
      exact r.pick p
    | some d =>
      obtain ⟨v, hv, rv⟩ := r.get hd
      rw [List.filterMap_cons_some hd, List.filterMap_cons_some hv]
      exact DRs.cons rv (r.pick p)
/-- n by position, the others by the names ks: perm tells where each parameter's value stands -/
def BindK (K : PySem.W.Frag) (fd : FuncData) (ps ks : List Str) (n : Nat) (perm : List Nat) : Prop :=
  ∀ (s : Shared) (us ws : List Value), K.In s.heap → us.length = n → ws.length = ks.length → BindsTo s fd ⟨us, ks.zip ws⟩ (ps.zip (pick perm (us ++ ws)))
theorem BindK.of {K : PySem.W.Frag} {fd : FuncData} {ps ks : List Str} {n : Nat} {perm : List Nat} (h : ∀ us ws : List Value, us.length = n → ws.length = ks.length → bindArgs fd ⟨us, ks.zip ws⟩ = pure (ps.zip (pick perm (us ++ ws)))) : BindK K fd ps ks n perm :=
  fun s us ws _ l1 l2 => .of_eq (h us ws l1 l2)
theorem Vals.paired {vs : List V} {us : List Value} (h : Vals vs us) : Paired RelV vs us := h
abbrev K2 (X : Cx) (Wx : WX) (kws : List Keyword) (t : Dl → Mu → Rs (List D)) : Prop := PK X kws (T2G X.K X.mg (fun W => DRs X.K X.mg W) Wx t)
theorem PK.wk {X : Cx} {es : List Keyword} {t t' : TA} (h : PK X es t) (w : ∀ σ H Q, t' σ H Q → t σ H Q) : PK X es t' := ⟨fun pos pins s σ H Q I q => h.run pos pins s σ H Q I (w σ H Q q)⟩
section
variable {X : Cx} {Wx : WX} {e : Expr} {kws : List Keyword} {ta : Dl → Mu → Rs D} {tr : Dl → Mu → Rs (List D)} {kpos : Pos} {n : Option Str}
theorem k2_nil : K2 X Wx [] nil2 := PK.wk pk_nil fun σ H Q ⟨W, δ, m, e, S, N, h⟩ => by
  subst e
  exact h [] W Ext.refl S DRs.nil
theorem k2_cons (ha : E2 X Wx e ta) (hr : K2 X Wx kws tr) : K2 X Wx (⟨n, e, kpos⟩ :: kws) (cons2 ta tr) :=
  PK.wk (pk_cons ha hr) fun σ H Q ⟨W, δ, m, e, S, N, h⟩ =>
    ⟨W, δ, m, e, S, N, (Post.bind h).mono fun v H1 ⟨W1, m1, x, e1, x1, S1, r1, h1⟩ => ⟨W1, δ, m1, e1, S1, N.mono (x1.keep S), (Post.bind h1).mono fun u H2 ⟨W2, m2, y, e2, x2, S2, r2, h2⟩ => by
      subst e2
      exact h2 (v :: u) W2 Ext.refl S2 (DRs.cons (r1.mono (x2.keep S1)) r2)⟩⟩
end
/-- F with its values in another order -/
def permD (F : FnD) (n m : Nat) (perm : List Nat) (us ws : List D) (μ : Mu) : Rs D := if us.length = n ∧ ws.length = m then F (pick perm (us ++ ws)) μ else .bad
def call2K (F : FnD) (n m : Nat) (perm : List Nat) (tr tk : Dl → Mu → Rs (List D)) : Dl → Mu → Rs D := fun δ μ => (tr δ μ).bind fun us μ => (tk δ μ).bind fun ws μ => permD F n m perm us ws μ
theorem RelV.glo {a : Addr} {u : Value} (h : RelV (.ref a) u) : u = .ref a := h
section
variable {X : Cx} {Wx : WX} {k n : Nat} {f C q a : Addr} {fd : FuncData} {ps ks : List Str} {perm : List Nat} {F : FnD} {x mn : Str} {p pos apos : Pos} {e o : Expr} {es : List Expr} {kws : List Keyword} {ta tf to : Dl → Mu → Rs D} {tr tk : Dl → Mu → Rs (List D)} {pins : List (Addr × Obj)} {σ : L2.St} {H : Hp} {s : Shared} {Q : VK} {us ws : List Value} {vs zs : List V}
theorem run_DK (h : FD X.prog X.w X.K X.mg X.base k f fd ps F) (hr : Rm k X.A) (hb : BindK X.K fd ps ks n perm) (tkk : Takes X Wx) (I : Inv X pins σ H s) (r : Vals vs us) (rz : Vals zs ws) (l1 : vs.length = n) (l2 : zs.length = ks.length)
    (hs : spD X.K X.mg ps.length F (pick perm (vs ++ zs)) H Q (WE Wx σ)) : wpAny (model X.prog X.w) X.A (call (.ref f) us (ks.zip ws)) (EP X pins σ Q) X.xe s := by
  refine wpAny_call (codeAny_mono (h.run X.A X.stack s H ⟨us, ks.zip ws⟩ (pick perm (us ++ ws)) _ Q (WE Wx σ) hr I.env0 (hb s us ws I.kIn (r.length.symm.trans l1) (rz.length.symm.trans l2)) (paired_pick (r.append rz) perm) hs) fun r s' hq => ?_)
  cases r with
  | error e => exact passAt tkk σ pins H s e s' I hq
  | ok fl =>
    cases fl with
    | ret u => exact I.after hq
    | next => exact False.elim hq
    | brk => exact False.elim hq
    | cont => exact False.elim hq
theorem permD_post {K : PySem.W.Frag} {mg : Str → Option Value} {W : Wd} {Wy : Value → Option Addr → Hp → Prop} {ds bs : List D} {m : Mu} {n' : Nat} (h : Post K mg (fun W => DR K mg W) Wy W Q (permD F n n' perm ds bs m)) : ds.length = n ∧ bs.length = n' ∧ Post K mg (fun W => DR K mg W) Wy W Q (F (pick perm (ds ++ bs)) m) := by
  unfold permD at h
  split at h
  · rename_i z; exact ⟨z.1, z.2, h⟩
  · exact h.elim
/-- x(e, .., k = v, ..) -/
theorem e2_callK (h : FD X.prog X.w X.K X.mg X.base k f fd ps F) (hr : Rm k X.A) (tkk : Takes X Wx) (hm : X.mg x = some (.ref f)) (hk : PySem.W.keepIn X.K (.ref f) = true) (hb : BindK X.K fd ps ks n perm) (ha : A2 X Wx (e :: es) tr) (hkw : K2 X Wx kws tk)
    (hg : Gl X x := by rfl) (hdb : (x == ("__debug__" : Str)) = false := by decide) (hall : (backToKw pos (keywordEach kws X.env)).all (·.1.isSome) = true := by rfl) (hks : (backToKw pos (keywordEach kws X.env)).filterMap (·.1) = ks := by rfl)
    (he : starEach (e :: es) X.env = (false, eval e X.env) :: starEach es X.env := by rfl) (hpl : ((backTo pos (starEach (e :: es) X.env)).any (·.1) || (backToKw pos (keywordEach kws X.env)).any (·.1.isNone)) = false := by rfl) :
    E2 X Wx (.Call (.Name x p) (e :: es) kws pos) (call2K F n ks.length perm tr tk) := by
  refine ⟨fun pins s σ H Q I h0 => ?_⟩
  obtain ⟨W, δ, m, eH, S, N, hp⟩ := h0
  refine wpAny_Call_Name_kw (ld_glob I hg hm ?_ hdb)
  refine PySem.W.callWith_KW (h₀ := X.base) I.ok.mod.kin hk hall (thn (ha.run pos pins s σ H _ I ⟨W, δ, m, eH, S, N, Post.bind hp⟩) fun us s1 ⟨vs, H1, I1, r, W1, m1, ds, e1, x1, S1, r1, h1⟩ => ?_) hpl he
  refine thn (hkw.run pos pins s1 σ H1 _ I1 ⟨W1, δ, m1, e1, S1, N.mono (x1.keep S), Post.bind h1⟩) fun ws s2 ⟨zs, H2, I2, rz, W2, m2, bs, e2, x2, S2, r2, h2⟩ => ⟨I2.kIn, ?_⟩
  rw [hks]
  obtain ⟨l1, l2, h3⟩ := permD_post h2
  subst e2
  have r1' := r1.mono (x2.keep S1)
  exact run_DK h hr hb tkk I2 r rz (r1'.len.trans l1) (r2.len.trans l2) (h.sp_of S2 ((r1'.append r2).pick perm) h3 Ext.refl)
/-- x(k = v, ..) -/
theorem e2_callK0 (h : FD X.prog X.w X.K X.mg X.base k f fd ps F) (hr : Rm k X.A) (tkk : Takes X Wx) (hm : X.mg x = some (.ref f)) (hk : PySem.W.keepIn X.K (.ref f) = true) (hb : BindK X.K fd ps ks 0 perm) (hkw : K2 X Wx kws tk)
    (hg : Gl X x := by rfl) (hdb : (x == ("__debug__" : Str)) = false := by decide) (hall : (backToKw pos (keywordEach kws X.env)).all (·.1.isSome) = true := by rfl) (hks : (backToKw pos (keywordEach kws X.env)).filterMap (·.1) = ks := by rfl)
    (hpl : ((backTo pos (starEach [] X.env)).any (·.1) || (backToKw pos (keywordEach kws X.env)).any (·.1.isNone)) = false := by rfl) :
    E2 X Wx (.Call (.Name x p) [] kws pos) (call2K F 0 ks.length perm nil2 tk) := by
  refine ⟨fun pins s σ H Q I h0 => ?_⟩
  obtain ⟨W, δ, m, eH, S, N, hp⟩ := h0
  refine wpAny_Call_Name_kw (ld_glob I hg hm ?_ hdb)
  refine PySem.W.callWith_KW0 (h₀ := X.base) I.ok.mod.kin hk hall (thn (hkw.run pos pins s σ H _ I ⟨W, δ, m, eH, S, N, Post.bind (k := fun ws μ => permD F 0 ks.length perm [] ws μ) hp⟩) fun ws s2 ⟨zs, H2, I2, rz, W2, m2, bs, e2, x2, S2, r2, h2⟩ => ⟨I2.kIn, ?_⟩) hpl
  rw [hks]
  obtain ⟨l1, l2, h3⟩ := permD_post h2
  subst e2
  exact run_DK (us := []) (vs := []) h hr hb tkk I2 .nil rz rfl (r2.len.trans l2) (h.sp_of S2 (r2.pick perm) h3 Ext.refl)
end
/-! ### new instances -/
def mkD (c : String) (F : FnD) (frz : Bool) (n k : Nat) (perm : List Nat) (us ws : List D) (m : Mu) : Rs D := if us.length = n ∧ ws.length = k then (F (pick perm (.ref m.length :: us ++ ws)) (m ++ [.ins c [] []])).bind fun d m2 => match d with
    | .non => if frz = true then frzD m.length m2 else .ok (.ref m.length) m2
    | _ => .bad
  else .bad
theorem make_sp {K : PySem.W.Frag} {mg : Str → Option Value} {P : Program} {w : World} {base : Heap} {W : Wd} {c : String} {frz : Bool} {us ws : List D} {vs zs : List V} {n k' : Nat} {perm : List Nat} {m : Mu} {Q : VK} {E : XK} (h : FD P w K mg base k f fd ps F)
    (hc : mg (nm c) = some (.ref C)) (S : Sim K mg W m) (r : DRs K mg W us vs) (rz : DRs K mg W ws zs) (hp : Post K mg (fun W => DR K mg W) E W Q (mkD c F frz n k' perm us ws m)) :
    ∀ y dx, W.H y = none → W.H dx = none → dx ≠ y → spD K mg ps.length F (pick perm (.ref y :: vs ++ zs)) (upd (upd W.H dx (.own y)) y (.ins C dx [])) (fun v H2 => v = .non ∧ Q (.ref y) H2) E := by
  intro y dx ny nd ne
  have S1 : Sim K mg (W.new dx (.own y)) m := S.new nd
  have ny' : (W.new dx (.own y)).H y = none := (upd_ne (Ne.symm ne)).trans ny
  have S2 : Sim K mg ((W.new dx (.own y)).alloc y (.ins C dx [])) (m ++ [.ins c [] []]) := S1.alloc ny' (by intro z; cases z) ⟨C, dx, [], rfl, hc, rfl, DRs.nil⟩
  have x2 : Ext W ((W.new dx (.own y)).alloc y (.ins C dx [])) := (Ext.new S nd).trans (Ext.alloc ny')
  have ry : DR K mg ((W.new dx (.own y)).alloc y (.ins C dx [])) (.ref m.length) (.ref y) := by
    simp only [DR]
    exact ⟨y, rfl, by show (W.al ++ [y])[m.length]? = _; rw [← S.len]; simp⟩
  have rs : DRs K mg ((W.new dx (.own y)).alloc y (.ins C dx [])) us vs := (r.mono (Keep.new nd)).mono (Keep.alloc ny')
  have rw' : DRs K mg ((W.new dx (.own y)).alloc y (.ins C dx [])) ws zs := (rz.mono (Keep.new nd)).mono (Keep.alloc ny')
  refine h.sp_of S2 (((DRs.cons ry rs).append rw').pick perm) ?_ Ext.refl
  have hp' := Post.ext hp x2
  clear hp
  unfold mkD at hp'
  split at hp'
  case isFalse => exact hp'.elim
  cases hF : F (pick perm (.ref m.length :: us ++ ws)) (m ++ [.ins c [] []]) with
  | bad => rw [hF] at hp'; exact hp'.elim
  | exc c' ns us m' => rw [hF] at hp'; exact hp'
  | ok d m' =>
    rw [hF] at hp'
    simp only [Rs.bind_ok] at hp'
    intro v W3 x3 S3 r3
    split at hp'
    · simp only [DR] at r3
      refine ⟨r3, ?_⟩
      have ha : W3.al[m.length]? = some y := (x3.keep S2).get (by show (W.al ++ [y])[m.length]? = _; rw [← S.len]; simp)
      have hp3 := Post.ext hp' x3
      by_cases hf : frz = true
      · rw [if_pos hf] at hp3
        exact frz_post S3 ha hp3
      · rw [if_neg hf] at hp3
        exact fin S3 hp3 (by simp only [DR]; exact ⟨y, rfl, ha⟩)
    · exact hp'.elim
section
variable {X : Cx} {Wx : WX} {k n : Nat} {f C q a : Addr} {fd : FuncData} {ps ks : List Str} {perm : List Nat} {F : FnD} {x mn : Str} {p pos apos : Pos} {e o : Expr} {es : List Expr} {kws : List Keyword} {ta tf to : Dl → Mu → Rs D} {tr tk : Dl → Mu → Rs (List D)} {pins : List (Addr × Obj)} {σ : L2.St} {H : Hp} {s : Shared} {Q : VK} {us ws : List Value} {vs zs : List V}
/-! ### making -/
theorem run_mk {us : List Value} {vs : List V} (M : Mk X.K C f) (h : FD X.prog X.w X.K X.mg X.base k f fd ps F) (hr : Rm (k + 1) X.A) (hb : BindK X.K fd ps ks (n + 1) perm) (tkk : Takes X Wx) (I : Inv X pins σ H s) (r : Vals vs us) (rz : Vals zs ws) (l1 : vs.length = n) (l2 : zs.length = ks.length)
    (hs : ∀ y dx, H y = none → H dx = none → dx ≠ y → spD X.K X.mg ps.length F (pick perm (.ref y :: vs ++ zs)) (upd (upd H dx (.own y)) y (.ins C dx [])) (fun v H2 => v = .non ∧ Q (.ref y) H2) (WE Wx σ)) :
    wpAny (model X.prog X.w) X.A (call (.ref C) us (ks.zip ws)) (EP X pins σ Q) X.xe s := by
  have hq := hs (s.heap.objs.size + 1) s.heap.objs.size (I.hok.fresh (Nat.le_succ _)) (I.hok.fresh (Nat.le_refl _)) (Nat.ne_of_lt (Nat.lt_succ_self _))
  have I2 := Inv.made (C := C) I
  have r1 : Vals (V.ref (s.heap.objs.size + 1) :: vs) (Value.ref (s.heap.objs.size + 1) :: us) := .cons rfl r
  refine wpAny_call (make_map (f := f) I.kIn M.makes M.init (beq_iff_eq.mp M.fn) (codeAny_mono (h.run _ X.stack _ _ ⟨Value.ref (s.heap.objs.size + 1) :: us, ks.zip ws⟩ (pick perm (Value.ref (s.heap.objs.size + 1) :: us ++ ws)) _ _ (WE Wx σ) (hr.make C us (ks.zip ws))
    (I2.env0.make C us (ks.zip ws)) (hb _ (Value.ref (s.heap.objs.size + 1) :: us) ws I2.kIn (by rw [List.length_cons, ← r.length, l1]) (rz.length.symm.trans l2)) (paired_pick (r1.append rz) perm) hq) fun z s' hq' => ?_))
  cases z with
  | error e => exact passAt tkk σ pins _ _ e s' I2 hq'
  | ok fl =>
    cases fl with
    | ret u =>
      obtain ⟨v, H', I3, rv, ev, q3⟩ := I2.after hq'
      subst ev
      exact ⟨rv, ⟨V.ref (s.heap.objs.size + 1), H', I3, rfl, q3⟩⟩
    | next => exact False.elim hq'
    | brk => exact False.elim hq'
    | cont => exact False.elim hq'
/-- c(e, .., k = v, ..), c what tf tells -/
def make2 (c : String) (F : FnD) (frz : Bool) (n k : Nat) (perm : List Nat) (tf : Dl → Mu → Rs D) (tr tk : Dl → Mu → Rs (List D)) : Dl → Mu → Rs D := fun δ m => (tf δ m).bind fun x m => match x with
  | .glo c' => if c' = c then (tr δ m).bind fun us m => (tk δ m).bind fun ws m => mkD c F frz n k perm us ws m else .bad
  | _ => .bad
/-- what of the text a class must have -/
structure MkD (P : Program) (w : World) (K : PySem.W.Frag) (mg : Str → Option Value) (base : Heap) (k : Nat) (c : String) (F : FnD) (ps ks : List Str) (n : Nat) (perm : List Nat) : Prop where
  ex : ∃ C f fd, mg (nm c) = some (.ref C) ∧ Mk K C f ∧ FD P w K mg base k f fd ps F ∧ BindK K fd ps ks (n + 1) perm
theorem mkD_len {K : PySem.W.Frag} {mg : Str → Option Value} {W : Wd} {Wy : Value → Option Addr → Hp → Prop} {c : String} {frz : Bool} {ds bs : List D} {m : Mu} {n' : Nat} (h : Post K mg (fun W => DR K mg W) Wy W Q (mkD c F frz n n' perm ds bs m)) : ds.length = n ∧ bs.length = n' := by
  unfold mkD at h
  split at h
  · rename_i z; exact z
  · exact h.elim
theorem e2_make {c : String} {frz : Bool} (M : MkD X.prog X.w X.K X.mg X.base k c F ps ks n perm) (hr : Rm (k + 1) X.A) (tkk : Takes X Wx) (hf : E2 X Wx (.Name x p) tf) (ha : A2 X Wx (e :: es) tr) (hkw : K2 X Wx kws tk)
    (hall : (backToKw pos (keywordEach kws X.env)).all (·.1.isSome) = true := by rfl) (hks : (backToKw pos (keywordEach kws X.env)).filterMap (·.1) = ks := by rfl)
    (he : starEach (e :: es) X.env = (false, eval e X.env) :: starEach es X.env := by rfl) (hpl : ((backTo pos (starEach (e :: es) X.env)).any (·.1) || (backToKw pos (keywordEach kws X.env)).any (·.1.isNone)) = false := by rfl) :
    E2 X Wx (.Call (.Name x p) (e :: es) kws pos) (make2 c F frz n ks.length perm tf tr tk) := by
  obtain ⟨C, f, fd, hm, hM, h, hb⟩ := M.ex
  refine ⟨fun pins s σ H Q I h0 => ?_⟩
  obtain ⟨W, δ, m, eH, S, N, hp⟩ := h0
  refine wpAny_Call_Name_kw (thn (hf.run pins s σ H _ I ⟨W, δ, m, eH, S, N, Post.bind hp⟩) fun u s1 ⟨v, H1, I1, rv, W1, m1, d, e1, x1, S1, r1, h1⟩ => ?_)
  split at h1
  case h_2 => exact h1.elim
  rename_i c'
  split at h1
  case isFalse => exact h1.elim
  rename_i hc
  subst hc
  simp only [DR] at r1
  obtain ⟨C', rfl, hC'⟩ := r1
  obtain rfl : C' = C := by rw [hm] at hC'; injection hC' with z; injection z with z; exact z.symm
  obtain rfl : u = Value.ref C' := rv
  refine PySem.W.callWith_KW (h₀ := X.base) I.ok.mod.kin hM.kp hall (thn (ha.run pos pins s1 σ H1 _ I1 ⟨W1, δ, m1, e1, S1, N.mono (x1.keep S), Post.bind h1⟩) fun us s2 ⟨vs, H2, I2, r, W2, m2, ds, e2, x2, S2, r2, h2⟩ => ?_) hpl he
  refine thn (hkw.run pos pins s2 σ H2 _ I2 ⟨W2, δ, m2, e2, S2, (N.mono (x1.keep S)).mono (x2.keep S1), Post.bind h2⟩) fun ws s3 ⟨zs, H3, I3, rz, W3, m3, bs, e3, x3, S3, r3, h3⟩ => ⟨I3.kIn, ?_⟩
  rw [hks]
  obtain ⟨l1, l2⟩ := mkD_len h3
  subst e3
  have r2' := r2.mono (x3.keep S2)
  exact run_mk hM h hr hb tkk I3 r rz (r2'.len.trans l1) (r3.len.trans l2) fun y dx hy hdx hne => make_sp h hm S3 r2' r3 h3 y dx hy hdx hne
theorem e2_make0 {c : String} {frz : Bool} (M : MkD X.prog X.w X.K X.mg X.base k c F ps ks 0 perm) (hr : Rm (k + 1) X.A) (tkk : Takes X Wx) (hf : E2 X Wx (.Name x p) tf) (hkw : K2 X Wx kws tk)
    (hall : (backToKw pos (keywordEach kws X.env)).all (·.1.isSome) = true := by rfl) (hks : (backToKw pos (keywordEach kws X.env)).filterMap (·.1) = ks := by rfl)
    (hpl : ((backTo pos (starEach [] X.env)).any (·.1) || (backToKw pos (keywordEach kws X.env)).any (·.1.isNone)) = false := by rfl) :
    E2 X Wx (.Call (.Name x p) [] kws pos) (make2 c F frz 0 ks.length perm tf nil2 tk) := by
  obtain ⟨C, f, fd, hm, hM, h, hb⟩ := M.ex
  refine ⟨fun pins s σ H Q I h0 => ?_⟩
  obtain ⟨W, δ, m, eH, S, N, hp⟩ := h0
  refine wpAny_Call_Name_kw (thn (hf.run pins s σ H _ I ⟨W, δ, m, eH, S, N, Post.bind hp⟩) fun u s1 ⟨v, H1, I1, rv, W1, m1, d, e1, x1, S1, r1, h1⟩ => ?_)
  split at h1
  case h_2 => exact h1.elim
  rename_i c'
  split at h1
  case isFalse => exact h1.elim
  rename_i hc
  subst hc
  simp only [DR] at r1
  obtain ⟨C', rfl, hC'⟩ := r1
  obtain rfl : C' = C := by rw [hm] at hC'; injection hC' with z; injection z with z; exact z.symm
  obtain rfl : u = Value.ref C' := rv
  refine PySem.W.callWith_KW0 (h₀ := X.base) I.ok.mod.kin hM.kp hall (thn (hkw.run pos pins s1 σ H1 _ I1 ⟨W1, δ, m1, e1, S1, N.mono (x1.keep S), Post.bind (k := fun ws μ => mkD c' F frz 0 ks.length perm [] ws μ) h1⟩) fun ws s3 ⟨zs, H3, I3, rz, W3, m3, bs, e3, x3, S3, r3, h3⟩ => ⟨I3.kIn, ?_⟩) hpl
  rw [hks]
  obtain ⟨l1, l2⟩ := mkD_len h3
  subst e3
  exact run_mk (us := []) (vs := []) hM h hr hb tkk I3 .nil rz rfl (r3.len.trans l2) fun y dx hy hdx hne => make_sp h hm S3 DRs.nil r3 h3 y dx hy hdx hne
/-! ### methods, properties, classmethods -/
/-- the classes of a table have such a method -/
def TblM (X : Cx) (k : Nat) (mn : String) (tbl : List (String × FnD)) (ps ks : List Str) (n : Nat) (perm : List Nat) : Prop :=
  ∀ c F, tbl.lookup c = some F → ∀ C, X.mg (nm c) = some (.ref C) → Cls X.K C ∧ ∃ f fd, Meth X.K C (nm mn) f ∧ FD X.prog X.w X.K X.mg X.base k f fd ps F ∧ BindK X.K fd ps ks (n + 1) perm
def meth2 (mn : String) (tbl : List (String × FnD)) (n k : Nat) (perm : List Nat) (to : Dl → Mu → Rs D) (tr tk : Dl → Mu → Rs (List D)) : Dl → Mu → Rs D := fun δ m => (to δ m).bind fun x m => match look m x with
  | .ins c ns _ => match tbl.lookup c with
    | some F => if mn ∉ ns then (tr δ m).bind fun us m => (tk δ m).bind fun ws m => if us.length = n ∧ ws.length = k then F (pick perm (x :: us ++ ws)) m else .bad else .bad
    | none => .bad
  | _ => .bad
theorem lookup_none {ns : List String} {fs : List (Str × V)} {f : String} (hf : fs.map (·.1) = ns.map nm) (h : f ∉ ns) : fs.lookup (nm f) = none := by
  induction fs generalizing ns with
  | nil => rfl
  | cons q fs ih =>
    cases ns with
    | nil => simp at hf
    | cons n ns =>
      simp only [List.map_cons, List.cons.injEq] at hf
      simp only [List.mem_cons, not_or] at h
      obtain ⟨q1, q2⟩ := q
      have : (nm f == q1) = false := by
        rw [beq_eq_false_iff_ne]
        intro z
        exact h.1 (nm_inj (z.trans hf.1))
      simp only [List.lookup, this]
      exact ih hf.2 h.2
end
end Dn
set_option Elab.async false
set_option linter.all false
set_option maxRecDepth 100000
set_option maxHeartbeats 2000000
namespace Dn
open PySem PySem.Spec PyProof.Rows L2
section
variable {X : Cx} {Wx : WX} {k n : Nat} {f C q a : Addr} {fd : FuncData} {ps ks : List Str} {perm : List Nat} {F : FnD} {x mn : String} {p pos apos : Pos} {e o : Expr} {es : List Expr} {kws : List Keyword} {ta tf to : Dl → Mu → Rs D} {tr tk : Dl → Mu → Rs (List D)} {pins : List (Addr × Obj)} {σ : L2.St} {H : Hp} {s : Shared} {Q : VK} {us ws : List Value} {vs zs : List V} {tbl : List (String × FnD)} {ms : Str}
/-- o.m(e, .., k = v, ..) -/
theorem e2_meth {pl : Sem Bool} (T : TblM X k mn tbl ps ks n perm) (hr : Rm k X.A) (tkk : Takes X Wx) (ho : E2 X Wx o to) (ha : A2 X Wx (e :: es) tr) (hkw : K2 X Wx kws tk) (hms : ms = nm mn := by rfl)
    (hall : (backToKw pos (keywordEach kws X.env)).all (·.1.isSome) = true := by rfl) (hks : (backToKw pos (keywordEach kws X.env)).filterMap (·.1) = ks := by rfl)
    (he : starEach (e :: es) X.env = (false, eval e X.env) :: starEach es X.env := by rfl) (hpl : ((backTo pos (starEach (e :: es) X.env)).any (·.1) || (backToKw pos (keywordEach kws X.env)).any (·.1.isNone)) = false := by rfl)
    (ht : eval (.Call (.Attribute o ms apos) (e :: es) kws pos) X.env = (do
      let ov ← eval o X.env
      standAt apos.atName
      let (f, first) ← holding [ov] (getMethod ov ms pl)
      callWith pos f first (backTo pos (starEach (e :: es) X.env)) (backToKw pos (keywordEach kws X.env))) := by rfl) :
    E2 X Wx (.Call (.Attribute o ms apos) (e :: es) kws pos) (meth2 mn tbl n ks.length perm to tr tk) := by
  subst hms
  refine ⟨fun pins s σ H Q I h0 => ?_⟩
  obtain ⟨W, δ, m, eH, S, N, hp⟩ := h0
  refine PySem.W.methodCall_KW (pl := pl) (thn (ho.run pins s σ H _ I ⟨W, δ, m, eH, S, N, Post.bind hp⟩) fun u s1 ⟨v, H1, I1, rv, W1, m1, d, e1, x1, S1, r1, h1⟩ => ?_) ht
  have rd := look_rd S1 r1
  cases hl : look m1 d with
  | ins c ns ds =>
    rw [hl] at h1 rd
    dsimp only at h1
    obtain ⟨a, C, dx, fs, rfl, ea, hmc, hf, rs⟩ := rd
    cases ht2 : tbl.lookup c with
    | none => rw [ht2] at h1; exact h1.elim
    | some F =>
      rw [ht2] at h1
      dsimp only at h1
      obtain ⟨cl, f, fd, hmt, hF, hb⟩ := T c F ht2 C hmc
      split at h1
      case isFalse => exact h1.elim
      rename_i hn
      obtain rfl : u = Value.ref a := rv
      subst e1
      refine getmeth_ok I1 ea cl hmt (lookup_none hf hn) ?_
      refine PySem.W.callWith_KW (first := [.ref a]) (h₀ := X.base) I.ok.mod.kin hmt.kp hall (thn (ha.run pos pins s1 σ W1.H _ I1 ⟨W1, δ, m1, rfl, S1, N.mono (x1.keep S), Post.bind h1⟩) fun us s2 ⟨vs, H2, I2, r, W2, m2, ds, e2, x2, S2, r2, h2⟩ => ?_) hpl he
      refine thn (hkw.run pos pins s2 σ H2 _ I2 ⟨W2, δ, m2, e2, S2, (N.mono (x1.keep S)).mono (x2.keep S1), Post.bind h2⟩) fun ws s3 ⟨zs, H3, I3, rz, W3, m3, bs, e3, x3, S3, r3, h3⟩ => ⟨I3.kIn, ?_⟩
      rw [hks]
      split at h3
      case isFalse => exact h3.elim
      rename_i hlen
      subst e3
      have r2' := r2.mono (x3.keep S2)
      exact run_DK (us := .ref a :: us) (vs := .ref a :: vs) hF hr hb tkk I3 (.cons rfl r) rz (by rw [List.length_cons, r2'.len, hlen.1]) (r3.len.trans hlen.2) (hF.sp_of S3 (((DRs.cons ((r1.mono (x2.keep S1)).mono (x3.keep S2)) r2').append r3).pick perm) h3 Ext.refl)
  | _ => rw [hl] at h1; exact h1.elim
theorem e2_meth0 {pl : Sem Bool} (T : TblM X k mn tbl ps ks 0 perm) (hr : Rm k X.A) (tkk : Takes X Wx) (ho : E2 X Wx o to) (hkw : K2 X Wx kws tk) (hms : ms = nm mn := by rfl)
    (hall : (backToKw pos (keywordEach kws X.env)).all (·.1.isSome) = true := by rfl) (hks : (backToKw pos (keywordEach kws X.env)).filterMap (·.1) = ks := by rfl)
    (hpl : ((backTo pos (starEach [] X.env)).any (·.1) || (backToKw pos (keywordEach kws X.env)).any (·.1.isNone)) = false := by rfl)
    (ht : eval (.Call (.Attribute o ms apos) [] kws pos) X.env = (do
      let ov ← eval o X.env
      standAt apos.atName
      let (f, first) ← holding [ov] (getMethod ov ms pl)
      callWith pos f first (backTo pos (starEach [] X.env)) (backToKw pos (keywordEach kws X.env))) := by rfl) :
    E2 X Wx (.Call (.Attribute o ms apos) [] kws pos) (meth2 mn tbl 0 ks.length perm to nil2 tk) := by
  subst hms
  refine ⟨fun pins s σ H Q I h0 => ?_⟩
  obtain ⟨W, δ, m, eH, S, N, hp⟩ := h0
  refine PySem.W.methodCall_KW (pl := pl) (thn (ho.run pins s σ H _ I ⟨W, δ, m, eH, S, N, Post.bind hp⟩) fun u s1 ⟨v, H1, I1, rv, W1, m1, d, e1, x1, S1, r1, h1⟩ => ?_) ht
  have rd := look_rd S1 r1
  cases hl : look m1 d with
  | ins c ns ds =>
    rw [hl] at h1 rd
    dsimp only at h1
    obtain ⟨a, C, dx, fs, rfl, ea, hmc, hf, rs⟩ := rd
    cases ht2 : tbl.lookup c with
    | none => rw [ht2] at h1; exact h1.elim
    | some F =>
      rw [ht2] at h1
      dsimp only at h1
      obtain ⟨cl, f, fd, hmt, hF, hb⟩ := T c F ht2 C hmc
      split at h1
      case isFalse => exact h1.elim
      rename_i hn
      obtain rfl : u = Value.ref a := rv
      subst e1
      refine getmeth_ok I1 ea cl hmt (lookup_none hf hn) ?_
      refine PySem.W.callWith_KW0 (first := [.ref a]) (h₀ := X.base) I.ok.mod.kin hmt.kp hall (thn (hkw.run pos pins s1 σ W1.H _ I1 ⟨W1, δ, m1, rfl, S1, N.mono (x1.keep S), Post.bind (k := fun ws μ => if ([] : List D).length = 0 ∧ ws.length = ks.length then F (pick perm (d :: [] ++ ws)) μ else .bad) h1⟩) fun ws s3 ⟨zs, H3, I3, rz, W3, m3, bs, e3, x3, S3, r3, h3⟩ => ⟨I3.kIn, ?_⟩) hpl
      rw [hks]
      split at h3
      case isFalse => exact h3.elim
      rename_i hlen
      subst e3
      exact run_DK (us := [.ref a]) (vs := [.ref a]) hF hr hb tkk I3 (.cons rfl .nil) rz rfl (r3.len.trans hlen.2) (hF.sp_of S3 (((DRs.one (r1.mono (x3.keep S1))).append r3).pick perm) h3 Ext.refl)
  | _ => rw [hl] at h1; exact h1.elim
/-- a property of the table's classes; the getter may not raise -/
def TblP (X : Cx) (k : Nat) (f : String) (tbl : List (String × FnD)) (sf : Str) : Prop :=
  ∀ c F, tbl.lookup c = some F → ∀ C, X.mg (nm c) = some (.ref C) → Cls X.K C ∧ ∃ p g fd, PropOf X.K C (nm f) p g ∧ FD X.prog X.w X.K X.mg X.base k g fd [sf] F ∧ Binds X.K fd [sf] []
def propD (tbl : List (String × FnD)) (x : D) (m : Mu) : Rs D := match look m x with
  | .ins c _ _ => match tbl.lookup c with
    | some F => (F [x] m).nx fun d m => .ok d m
    | none => .bad
  | _ => .bad
theorem nx_ok_post {K : PySem.W.Frag} {mg : Str → Option Value} {W : Wd} {E E' : Value → Option Addr → Hp → Prop} {r : Rs D} (h : Post K mg (fun W => DR K mg W) E W Q (r.nx fun d m => .ok d m)) : Post K mg (fun W => DR K mg W) E' W Q r := by
  cases r with
  | ok d m => exact h
  | exc c ns ds m => exact h.elim
  | bad => exact h.elim
theorem getprop_D {tbl : List (String × FnD)} {sf : Str} {b : Bool} {E' : Value → Shared → Prop} {W : Wd} {m : Mu} {d : D} {v : V} {u : Value} {f : String} {Wy : Value → Option Addr → Hp → Prop} (T : TblP X k f tbl sf) (hr : Rm (k + 1) X.A) (I : Inv X pins σ W.H s) (S : Sim X.K X.mg W m) (r : DR X.K X.mg W d v) (rv : RelV v u)
    (h : Post X.K X.mg (fun W => DR X.K X.mg W) Wy W Q (propD tbl d m)) : wpAny (model X.prog X.w) X.A (getAttr u (nm f) b) (EP X pins σ Q) E' s := by
  have rd := look_rd S r
  unfold propD at h
  cases hl : look m d with
  | ins c ns ds =>
    rw [hl] at h rd
    dsimp only at h
    obtain ⟨a, C, dx, fs, rfl, ea, hmc, hf, rs⟩ := rd
    cases ht2 : tbl.lookup c with
    | none => rw [ht2] at h; exact h.elim
    | some F =>
      rw [ht2] at h
      dsimp only at h
      obtain ⟨cl, p, g, fd, hp, hF, hb⟩ := T c F ht2 C hmc
      obtain rfl : u = Value.ref a := rv
      obtain ⟨mA, O, _, _, _, _⟩ := ins_get I.hok ea
      obtain ⟨od, J, _⟩ := O.look
      obtain ⟨rest, hrec⟩ := hp.rec_
      have I1 := I.tok (s.toks + 1)
      have hcs : (PySem.W.clsIn X.K C).isSome = true := by
        obtain ⟨cd, hc, _⟩ := PySem.W.any_some cl.hd
        rw [hc]
        rfl
      refine PySem.W.get_bind I.kIn J (PySem.W.plainGet_of (cl.get (nm f))).1 (PySem.W.findObj_data hcs hp.at_ hp.get hp.tak) (PySem.W.plainGet_of (cl.get (nm f))).2 (wpAny_call (PySem.W.prop_get (s := { s with toks := s.toks + 1 }) I.kIn hrec ?_))
      refine codeAny_mono (hF.run X.A.in1 X.stack { s with toks := s.toks + 1 } W.H ⟨[.ref a], []⟩ [.ref a] [.ref a] Q (fun _ _ _ => False) hr.in1 I1.env0.in1 (hb _ [.ref a] I1.kIn rfl) (.cons rfl .nil) (hF.sp_of S (DRs.one r) (nx_ok_post h) Ext.refl)) fun r s' hq => ?_
      cases r with
      | error er =>
        obtain ⟨_, _, _, _, _, _, _, _, _, _, _, _, z⟩ := hq
        exact z.elim
      | ok fl =>
        cases fl with
        | ret u =>
          obtain ⟨v, H', I3, rv, q3⟩ := I1.after hq
          show wpAny _ _ (handedOut u) _ _ _
          rw [PySem.W.handedOut_of (handed_of rv)]
          exact wpAny_pure ⟨v, H', I3, rv, q3⟩
        | next => exact False.elim hq
        | brk => exact False.elim hq
        | cont => exact False.elim hq
  | _ => rw [hl] at h; exact h.elim
theorem e2_prop {f : String} {fn sf : Str} (T : TblP X k f tbl sf) (hr : Rm (k + 1) X.A) (he : E2 X Wx e ta) (hf : fn = nm f := by rfl) (hab : attributeBase e fn X.env (eval e X.env) = eval e X.env := by rfl) : E2 X Wx (.Attribute e fn pos) (un2 (propD tbl) ta) := by
  subst hf
  refine ⟨fun pins s σ H Q I h0 => ?_⟩
  obtain ⟨W, δ, m, eH, S, N, hp⟩ := h0
  refine attr_of hab (thn (he.run pins s σ H _ I ⟨W, δ, m, eH, S, N, Post.bind hp⟩) fun u s1 ⟨v, H1, I1, rv, W1, m1, d, e1, x1, S1, r1, h1⟩ => ?_)
  subst e1
  exact getprop_D T hr I1 S1 r1 rv h1
/-- c.m(e, ..), m a classmethod -/
structure CmOk (P : Program) (w : World) (K : PySem.W.Frag) (mg : Str → Option Value) (base : Heap) (k : Nat) (c m : String) (F : FnD) (ps : List Str) : Prop where
  ex : ∃ C mc p g fd, mg (nm c) = some (.ref C) ∧ ClX.CRead K C mc ∧ ClX.CMet K C mc (nm m) p g ∧ FD P w K mg base k g fd ps F ∧ Binds K fd ps []
def cmeth2 (c : String) (F : FnD) (to : Dl → Mu → Rs D) (tr : Dl → Mu → Rs (List D)) : Dl → Mu → Rs D := fun δ m => (to δ m).bind fun x m => match x with
  | .glo c' => if c' = c then (tr δ m).bind fun us m => F (x :: us) m else .bad
  | _ => .bad
theorem e2_cmeth {pl : Sem Bool} {c : String} (M : CmOk X.prog X.w X.K X.mg X.base k c mn F ps) (hr : Rm k X.A) (tkk : Takes X Wx) (ho : E2 X Wx o to) (ha : A2 X Wx (e :: es) tr) (hms : ms = nm mn := by rfl)
    (hst : starEach (e :: es) X.env = (false, eval e X.env) :: starEach es X.env := by rfl) (hpl : (backTo pos (starEach es X.env)).any (·.1) = false := by rfl)
    (ht : eval (.Call (.Attribute o ms apos) (e :: es) [] pos) X.env = (do
      let ov ← eval o X.env
      standAt apos.atName
      let (f, first) ← holding [ov] (getMethod ov ms pl)
      callWith pos f first (backTo pos (starEach (e :: es) X.env)) (backToKw pos (keywordEach [] X.env))) := by rfl) :
    E2 X Wx (.Call (.Attribute o ms apos) (e :: es) [] pos) (cmeth2 c F to tr) := by
  subst hms
  obtain ⟨C, mc, p, g, fd, hm, r, cm, h, hb⟩ := M.ex
  refine ⟨fun pins s σ H Q I h0 => ?_⟩
  obtain ⟨W, δ, m, eH, S, N, hp⟩ := h0
  refine PySem.W.methodCall_KW (pl := pl) (thn (ho.run pins s σ H _ I ⟨W, δ, m, eH, S, N, Post.bind hp⟩) fun u s1 ⟨v, H1, I1, rv, W1, m1, d, e1, x1, S1, r1, h1⟩ => ?_) ht
  split at h1
  case h_2 => exact h1.elim
  rename_i c'
  split at h1
  case isFalse => exact h1.elim
  rename_i hc
  subst hc
  have r1' := r1
  simp only [DR] at r1
  obtain ⟨C', rfl, hC'⟩ := r1
  obtain rfl : C' = C := by rw [hm] at hC'; injection hC' with z; injection z with z; exact z.symm
  obtain rfl : u = Value.ref C' := rv
  refine ClX.getmethcm_ok I1 r cm fun s2 I2 => ?_
  refine ClX.callwith_cm I2 (ClX.base_none I1 (Nat.le_refl _)) cm.fi (thn (ha.run pos _ s2 σ H1 _ I2 ⟨W1, δ, m1, e1, S1, N.mono (x1.keep S), Post.bind h1⟩) fun us s3 ⟨vs, H2, I3, rv, W2, m2, ds, e2, x2, S2, r2, h2⟩ => ⟨⟨ClX.pin_at I3, I3.kIn⟩, ?_⟩) hst hpl
  subst e2
  have z : wpAny (model X.prog X.w) X.A (call (.ref s1.heap.objs.size) us) (EP X ((s1.heap.objs.size, PySem.W.methodObj (.ref g) (.ref C')) :: pins) σ Q) X.xe s3 := by
    refine wpAny_call (PySem.W.method_call (ClX.pin_at I3) ?_)
    refine codeAny_mono (h.run X.A X.stack s3 W2.H ⟨.ref C' :: us, []⟩ (.ref C' :: us) (.ref C' :: vs) Q (WE Wx σ) hr I3.env0 ?_ (.cons rfl rv) (h.sp_of S2 (DRs.cons (r1'.mono (x2.keep S1)) r2) h2 Ext.refl)) fun r s' hq => ?_
    · have hl : (.ref C' :: us : List Value).length = ps.length := by
        have hh := (h.sp_of S2 (DRs.cons (r1'.mono (x2.keep S1)) r2) h2 Ext.refl).1
        rw [List.length_cons, ← rv.length, ← List.length_cons (a := V.ref C')]
        exact hh
      have := hb s3 (.ref C' :: us) I3.kIn (by simpa using hl)
      simpa using this
    · cases r with
      | error e => exact passAt tkk σ _ _ s3 e s' I3 hq
      | ok fl =>
        cases fl with
        | ret u => exact I3.after hq
        | next => exact False.elim hq
        | brk => exact False.elim hq
        | cont => exact False.elim hq
  exact thn z fun _ _ y => ClX.unpinE y
end
end Dn
set_option Elab.async false
set_option linter.all false
set_option maxRecDepth 100000
set_option maxHeartbeats 2000000
namespace Dn
open PySem PySem.Spec PyProof.Rows L2
/-! ### built-in functions by values -/
abbrev BFn := List D → Mu → Rs D
def rB (K : PySem.W.Frag) (mg : Str → Option Value) (g : BFn) : List V → Hp → VK → Prop := fun vs H Q => ∃ (W : Wd) (m : Mu) (ds : List D) (Wy : Value → Option Addr → Hp → Prop), W.H = H ∧ Sim K mg W m ∧ DRs K mg W ds vs ∧ Post K mg (fun W => DR K mg W) Wy W Q (g ds m)
def CB (X : Cx) (f : Value) (g : BFn) : Prop := CallR X f (rB X.K X.mg g)
section
variable {X : Cx} {Wx : WX} {x : Str} {p pos : Pos} {e : Expr} {es : List Expr} {tr : Dl → Mu → Rs (List D)} {id T : String} {g : BFn}
theorem e2_callB (hc : CB X (.builtin id) g) (hm : X.mg x = none) (hv : bootBuiltins x = some (.builtin id)) (ha : A2 X Wx (e :: es) tr) (hg : Gl X x := by rfl) (hn : x ≠ "__name__" := by decide) (hdb : (x == ("__debug__" : Str)) = false := by decide)
    (he : starEach (e :: es) X.env = (false, eval e X.env) :: starEach es X.env := by rfl) (hpl : (backTo pos (starEach es X.env)).any (·.1) = false := by rfl) : E2 X Wx (.Call (.Name x p) (e :: es) [] pos) (on2 g tr) :=
  PE.wk (pe_callB hc hg hm hv ha hn hdb he hpl) fun σ H Q ⟨W, δ, m, e, S, N, h⟩ => ⟨W, δ, m, e, S, N, (Post.bind h).mono fun vs H1 ⟨W1, m1, ds, e1, x1, S1, r1, h1⟩ => ⟨W1, m1, ds, _, e1, S1, r1, h1⟩⟩
theorem e2_callT (hc : CB X (.type T) g) (hm : X.mg x = none) (hv : bootBuiltins x = some (.type T)) (ha : A2 X Wx (e :: es) tr) (hg : Gl X x := by rfl) (hn : x ≠ "__name__" := by decide) (hdb : (x == ("__debug__" : Str)) = false := by decide)
    (he : starEach (e :: es) X.env = (false, eval e X.env) :: starEach es X.env := by rfl) (hpl : (backTo pos (starEach es X.env)).any (·.1) = false := by rfl) : E2 X Wx (.Call (.Name x p) (e :: es) [] pos) (on2 g tr) :=
  PE.wk (pe_callTy hc hg hm hv ha hn hdb he hpl) fun σ H Q ⟨W, δ, m, e, S, N, h⟩ => ⟨W, δ, m, e, S, N, (Post.bind h).mono fun vs H1 ⟨W1, m1, ds, e1, x1, S1, r1, h1⟩ => ⟨W1, m1, ds, _, e1, S1, r1, h1⟩⟩
end
section
variable {K : PySem.W.Frag} {mg : Str → Option Value} {W : Wd} {m : Mu}
theorem drs1 {d : D} {vs : List V} (r : DRs K mg W [d] vs) : ∃ v, vs = [v] ∧ DR K mg W d v := by
  simp only [DRs] at r
  obtain ⟨v, l, rfl, h, rfl⟩ := r
  exact ⟨v, rfl, h⟩
theorem drs2 {d e : D} {vs : List V} (r : DRs K mg W [d, e] vs) : ∃ v u, vs = [v, u] ∧ DR K mg W d v ∧ DR K mg W e u := by
  simp only [DRs] at r
  obtain ⟨v, l, rfl, h, u, l', rfl, h', rfl⟩ := r
  exact ⟨v, u, rfl, h, h'⟩
end
/-! len -/
def lenD : BFn := fun ds m => match ds with
  | [d] => match look m d with
    | .str x => if x.length ≤ SZ then .ok (.int x.length) m else .bad
    | .lst ds => .ok (.int ds.length) m
    | .tup ds => .ok (.int ds.length) m
    | .scr ns => .ok (.int ns.length) m
    | .dct ks _ => .ok (.int ks.length) m
    | _ => .bad
  | _ => .bad
theorem cb_len {X : Cx} : CB X (.builtin "len") lenD := by
  intro pins s σ H vs us Q I r ⟨W, m, ds, Wy, e, S, rs, h⟩
  subst e
  unfold lenD at h
  split at h
  case h_2 => exact h.elim
  rename_i d
  obtain ⟨v, rfl, r1⟩ := drs1 rs
  have rd := look_rd S r1
  split at h
  · rename_i x hx
    rw [hx] at rd
    split at h
    · simp only [RD, DR] at rd
      subst rd
      rename_i hl
      refine call_len_str pins s σ W.H _ us Q I r ⟨_, rfl, by rw [toS_len, SZ_eq]; exact hl, ?_⟩
      rw [toS_len]
      exact fin S h (by simp only [DR])
    · exact h.elim
  · rename_i ds hx
    rw [hx] at rd
    obtain ⟨a, vs, rfl, ha, rs⟩ := rd
    refine call_len_seq pins s σ W.H _ us Q I r ⟨a, vs, rfl, .inl (.inl (.inl ha)), ?_⟩
    rw [rs.len]
    exact fin S h (by simp only [DR])
  · rename_i ds hx
    rw [hx] at rd
    simp only [RD, DR] at rd
    obtain ⟨a, vs, rfl, ha, rs⟩ := rd
    refine call_len_seq pins s σ W.H _ us Q I r ⟨a, vs, rfl, .inr (sqT_of ha), ?_⟩
    rw [rs.len]
    exact fin S h (by simp only [DR])
  · rename_i ns hx
    rw [hx] at rd
    simp only [RD, DR] at rd
    obtain ⟨a, rfl, ha⟩ := rd
    refine call_len_seq pins s σ W.H _ us Q I r ⟨a, _, rfl, .inl (sqL_scr ha), ?_⟩
    rw [List.length_map]
    exact fin S h (by simp only [DR])
  · rename_i ks ds hx
    rw [hx] at rd
    obtain ⟨a, kvs, rfl, ha, hk, rs⟩ := rd
    obtain ⟨u, rfl, ru⟩ := vals1 r
    cases ru
    refine d_len I ha fun t s' I' => ⟨.int kvs.length, W.H, I', ⟨t, rfl⟩, ?_⟩
    have : kvs.length = ks.length := by simpa using congrArg List.length hk
    rw [this]
    exact fin S h (by simp only [DR])
  · exact h.elim
/-! abs, int, bool, divmod -/
def absD : BFn := fun ds m => match ds with
  | [.int i] => .ok (.int (if i < 0 then -i else i)) m
  | _ => .bad
theorem cb_abs {X : Cx} : CB X (.builtin "abs") absD := by
  intro pins s σ H vs us Q I r ⟨W, m, ds, Wy, e, S, rs, h⟩
  subst e
  unfold absD at h
  split at h
  · rename_i i
    obtain ⟨v, rfl, r1⟩ := drs1 rs
    simp only [DR] at r1
    subst r1
    exact call_abs pins s σ W.H _ us Q I r ⟨i, rfl, fin S h (by simp only [DR])⟩
  · exact h.elim
def intD : BFn := fun ds m => match ds with
  | [.int i] => .ok (.int i) m
  | [.bl b] => .ok (.int (if b then 1 else 0)) m
  | _ => .bad
theorem cb_int {X : Cx} : CB X (.type "int") intD := by
  intro pins s σ H vs us Q I r ⟨W, m, ds, Wy, e, S, rs, h⟩
  subst e
  unfold intD at h
  split at h
  · rename_i i
    obtain ⟨v, rfl, r1⟩ := drs1 rs
    simp only [DR] at r1
    subst r1
    exact call_int1 pins s σ W.H _ us Q I r (.inl ⟨i, rfl, fin S h (by simp only [DR])⟩)
  · rename_i b
    obtain ⟨v, rfl, r1⟩ := drs1 rs
    simp only [DR] at r1
    subst r1
    exact call_int1 pins s σ W.H _ us Q I r (.inr ⟨b, rfl, fin S h (by simp only [DR])⟩)
  · exact h.elim
def strIntC (i : Int) : Cs := (toString i : Str).cps.toList
def strD : BFn := fun ds m => match ds with
  | [.int i] => if i.natAbs.log2 < 1920 then .ok (.str (strIntC i)) m else .bad
  | [.str x] => .ok (.str x) m
  | _ => .bad
theorem toS_cps (x : Str) : toS x.cps.toList = x := by
  cases x
  simp [toS]
theorem cb_str {X : Cx} : CB X (.type "str") strD := by
  intro pins s σ H vs us Q I r ⟨W, m, ds, Wy, e, S, rs, h⟩
  subst e
  unfold strD at h
  split at h
  · rename_i i
    split at h
    · rename_i hi
      obtain ⟨v, rfl, r1⟩ := drs1 rs
      simp only [DR] at r1
      subst r1
      exact call_str_int pins s σ W.H _ us Q I r ⟨i, rfl, hi, fin S h (by simp only [DR]; unfold strIntC; rw [toS_cps])⟩
    · exact h.elim
  · rename_i x
    obtain ⟨v, rfl, r1⟩ := drs1 rs
    simp only [DR] at r1
    subst r1
    exact SkE.call_str_str pins s σ W.H _ us Q I r ⟨_, rfl, fin S h (by simp only [DR])⟩
  · exact h.elim
def divmodD : BFn := fun ds m => match ds with
  | [.int i, .int j] => if 0 < j then .ok (.tup [.int (i / j), .int (i % j)]) m else .bad
  | _ => .bad
/-! tuple(l), list(l) -/
def tupleD : BFn := fun ds m => match ds with
  | [d] => match look m d with
    | .lst ds => .ok (.tup ds) m
    | .tup ds => .ok (.tup ds) m
    | .scr ns => .ok (.tup (ns.map D.int)) m
    | _ => .bad
  | _ => .bad
theorem cb_tuple {X : Cx} : CB X (.type "tuple") tupleD := by
  intro pins s σ H vs us Q I r ⟨W, m, ds, Wy, e, S, rs, h⟩
  subst e
  unfold tupleD at h
  split at h
  case h_2 => exact h.elim
  rename_i d
  obtain ⟨v, rfl, r1⟩ := drs1 rs
  have rd := look_rd S r1
  split at h
  · rename_i ds hx
    rw [hx] at rd
    obtain ⟨a, vs, rfl, ha, rs⟩ := rd
    exact call_tuple_of pins s σ W.H _ us Q I r ⟨a, vs, rfl, .inl ⟨.inl (.inl ha), new_tup S rs h⟩⟩
  · rename_i ds hx
    rw [hx] at rd
    have rd' := rd
    simp only [RD, DR] at rd'
    obtain ⟨a, vs, rfl, ha, rs⟩ := rd'
    exact call_tuple_of pins s σ W.H _ us Q I r ⟨a, vs, rfl, .inr ⟨sqT_of ha, fin S h rd⟩⟩
  · rename_i ns hx
    rw [hx] at rd
    simp only [RD, DR] at rd
    obtain ⟨a, rfl, ha⟩ := rd
    exact call_tuple_of pins s σ W.H _ us Q I r ⟨a, _, rfl, .inl ⟨sqL_scr ha, new_tup S (DRs.ints ns) h⟩⟩
  · exact h.elim
def listF : BFn := fun ds m => match ds with
  | [d] => match seqOf m d with
    | some ds => .ok (.lst ds) m
    | none => .bad
  | _ => .bad
def listM : BFn := fun ds m => match ds with
  | [d] => match seqOf m d with
    | some ds => .ok (.ref m.length) (m ++ [.lst ds])
    | none => .bad
  | _ => .bad
theorem cb_listF {X : Cx} : CB X (.type "list") listF := by
  intro pins s σ H vs us Q I r ⟨W, m, ds, Wy, e, S, rs, h⟩
  subst e
  unfold listF at h
  split at h
  case h_2 => exact h.elim
  obtain ⟨v, rfl, r1⟩ := drs1 rs
  split at h
  · rename_i ds hq
    obtain ⟨a, vs, rfl, hs, rs⟩ := seq_of S r1 hq
    exact call_list_of pins s σ W.H _ us Q I r ⟨a, vs, rfl, hs.symm, new_lst S rs h⟩
  · exact h.elim
theorem cb_listM {X : Cx} : CB X (.type "list") listM := by
  intro pins s σ H vs us Q I r ⟨W, m, ds, Wy, e, S, rs, h⟩
  subst e
  unfold listM at h
  split at h
  case h_2 => exact h.elim
  obtain ⟨v, rfl, r1⟩ := drs1 rs
  split at h
  · rename_i ds hq
    obtain ⟨a, vs, rfl, hs, rs⟩ := seq_of S r1 hq
    exact call_list_of pins s σ W.H _ us Q I r ⟨a, vs, rfl, hs.symm, new_cell (c := .lst ds) S (by intro z; cases z) ⟨vs, rfl, rs⟩ h⟩
  · exact h.elim
/-! sum, all, any -/
def intsOf : List D → Option (List Int)
  | [] => some []
  | .int i :: ds => (intsOf ds).map (i :: ·)
  | _ :: _ => none
def blsOf : List D → Option (List Bool)
  | [] => some []
  | .bl i :: ds => (blsOf ds).map (i :: ·)
  | _ :: _ => none
def strsOf : List D → Option (List Cs)
  | [] => some []
  | .str i :: ds => (strsOf ds).map (i :: ·)
  | _ :: _ => none
@[simp] theorem intsOf_map (ns : List Int) : intsOf (ns.map D.int) = some ns := by induction ns <;> simp_all [intsOf]
@[simp] theorem blsOf_map (ns : List Bool) : blsOf (ns.map D.bl) = some ns := by induction ns <;> simp_all [blsOf]
@[simp] theorem strsOf_map (ns : List Cs) : strsOf (ns.map D.str) = some ns := by induction ns <;> simp_all [strsOf]
theorem intsOf_inv : ∀ {ds : List D} {ns : List Int}, intsOf ds = some ns → ds = ns.map D.int
  | [], ns, h => by simp [intsOf] at h; subst h; rfl
  | .int i :: ds, ns, h => by
    simp only [intsOf, Option.map_eq_some_iff] at h
    obtain ⟨l, hl, rfl⟩ := h
    rw [intsOf_inv hl]; rfl
  | .non :: _, _, h | .bl _ :: _, _, h | .str _ :: _, _, h | .ty _ :: _, _, h | .tup _ :: _, _, h | .lst _ :: _, _, h | .scr _ :: _, _, h | .dct _ _ :: _, _, h | .ins _ _ _ :: _, _, h | .ref _ :: _, _, h | .glo _ :: _, _, h => by simp [intsOf] at h
theorem blsOf_inv : ∀ {ds : List D} {ns : List Bool}, blsOf ds = some ns → ds = ns.map D.bl
  | [], ns, h => by simp [blsOf] at h; subst h; rfl
  | .bl i :: ds, ns, h => by
    simp only [blsOf, Option.map_eq_some_iff] at h
    obtain ⟨l, hl, rfl⟩ := h
    rw [blsOf_inv hl]; rfl
  | .non :: _, _, h | .int _ :: _, _, h | .str _ :: _, _, h | .ty _ :: _, _, h | .tup _ :: _, _, h | .lst _ :: _, _, h | .scr _ :: _, _, h | .dct _ _ :: _, _, h | .ins _ _ _ :: _, _, h | .ref _ :: _, _, h | .glo _ :: _, _, h => by simp [blsOf] at h
theorem strsOf_inv : ∀ {ds : List D} {ns : List Cs}, strsOf ds = some ns → ds = ns.map D.str
  | [], ns, h => by simp [strsOf] at h; subst h; rfl
  | .str i :: ds, ns, h => by
    simp only [strsOf, Option.map_eq_some_iff] at h
    obtain ⟨l, hl, rfl⟩ := h
    rw [strsOf_inv hl]; rfl
  | .non :: _, _, h | .bl _ :: _, _, h | .int _ :: _, _, h | .ty _ :: _, _, h | .tup _ :: _, _, h | .lst _ :: _, _, h | .scr _ :: _, _, h | .dct _ _ :: _, _, h | .ins _ _ _ :: _, _, h | .ref _ :: _, _, h | .glo _ :: _, _, h => by simp [strsOf] at h
/-- a list's items (no tuple) -/
def lstOf (m : Mu) (d : D) : Option (List D) := match look m d with
  | .lst ds => some ds
  | .scr ns => some (ns.map D.int)
  | _ => none
theorem lst_of {K : PySem.W.Frag} {mg : Str → Option Value} {W : Wd} {m : Mu} {x : D} {v : V} {ds : List D} (S : Sim K mg W m) (r : DR K mg W x v) (h : lstOf m x = some ds) : ∃ a vs, v = .ref a ∧ SqL K W.H a vs ∧ DRs K mg W ds vs := by
  have rd := look_rd S r
  unfold lstOf at h
  split at h
  · rename_i ds' hx
    rw [hx] at rd
    cases h
    obtain ⟨a, vs, rfl, ha, rs⟩ := rd
    exact ⟨a, vs, rfl, .inl (.inl ha), rs⟩
  · rename_i ns hx
    rw [hx] at rd
    cases h
    simp only [RD, DR] at rd
    obtain ⟨a, rfl, ha⟩ := rd
    exact ⟨a, _, rfl, sqL_scr ha, DRs.ints ns⟩
  · cases h
def sumD : BFn := fun ds m => match ds with
  | [d] => match (lstOf m d).bind intsOf with
    | some ns => .ok (.int ns.sum) m
    | none => .bad
  | _ => .bad
def allD : BFn := fun ds m => match ds with
  | [d] => match (lstOf m d).bind blsOf with
    | some bs => .ok (.bl (bs.all id)) m
    | none => .bad
  | _ => .bad
def anyD : BFn := fun ds m => match ds with
  | [d] => match (lstOf m d).bind blsOf with
    | some bs => .ok (.bl (bs.any id)) m
    | none => .bad
  | _ => .bad
theorem cb_sum {X : Cx} (hc : X.calm = true) : CB X (.builtin "sum") sumD := by
  intro pins s σ H vs us Q I r ⟨W, m, ds, Wy, e, S, rs, h⟩
  subst e
  unfold sumD at h
  split at h
  case h_2 => exact h.elim
  obtain ⟨v, rfl, r1⟩ := drs1 rs
  split at h
  · rename_i ns hq
    obtain ⟨ds, h1, h2⟩ := Option.bind_eq_some_iff.mp hq
    obtain ⟨a, vs, rfl, hs, rs⟩ := lst_of S r1 h1
    rw [intsOf_inv h2] at rs
    rw [rs.of_ints] at hs
    exact cr_sum hc pins s σ W.H _ us Q I r ⟨a, ns, rfl, hs, fin S h (by simp only [DR])⟩
  · exact h.elim
theorem cb_all {X : Cx} (hc : X.calm = true) : CB X (.builtin "all") allD := by
  intro pins s σ H vs us Q I r ⟨W, m, ds, Wy, e, S, rs, h⟩
  subst e
  unfold allD at h
  split at h
  case h_2 => exact h.elim
  obtain ⟨v, rfl, r1⟩ := drs1 rs
  split at h
  · rename_i ns hq
    obtain ⟨ds, h1, h2⟩ := Option.bind_eq_some_iff.mp hq
    obtain ⟨a, vs, rfl, hs, rs⟩ := lst_of S r1 h1
    rw [blsOf_inv h2] at rs
    rw [rs.of_bls] at hs
    exact cr_all hc pins s σ W.H _ us Q I r ⟨a, ns, rfl, hs, fin S h (by simp only [DR])⟩
  · exact h.elim
theorem cb_any {X : Cx} (hc : X.calm = true) : CB X (.builtin "any") anyD := by
  intro pins s σ H vs us Q I r ⟨W, m, ds, Wy, e, S, rs, h⟩
  subst e
  unfold anyD at h
  split at h
  case h_2 => exact h.elim
  obtain ⟨v, rfl, r1⟩ := drs1 rs
  split at h
  · rename_i ns hq
    obtain ⟨ds, h1, h2⟩ := Option.bind_eq_some_iff.mp hq
    obtain ⟨a, vs, rfl, hs, rs⟩ := lst_of S r1 h1
    rw [blsOf_inv h2] at rs
    rw [rs.of_bls] at hs
    exact cr_any hc pins s σ W.H _ us Q I r ⟨a, ns, rfl, hs, fin S h (by simp only [DR])⟩
  · exact h.elim
/-! repr -/
def reprC (d : D) : Cs := d.py.shown.cps.toList
def reprD : BFn := fun ds m => match ds with
  | [d] => match (look m d).pd with
    | some n => if n ≤ 60 ∧ (look m d).py.showable = true ∧ (reprC (look m d)).length ≤ SZ then .ok (.str (reprC (look m d))) m else .bad
    | none => .bad
  | _ => .bad
end Dn
set_option Elab.async false
set_option linter.all false
set_option maxRecDepth 100000
set_option maxHeartbeats 2000000
namespace Dn
open PySem PySem.Spec PyProof.Rows L2
theorem pd_nodict : ∀ (d : D), d.py.hasDict = false := by
  intro d
  exact (D.rec (motive_1 := fun d => d.py.hasDict = false) (motive_2 := fun ds => PyData.hasDictAll (D.pys ds) = false)
    rfl (fun _ => rfl) (fun _ => rfl) (fun _ => rfl) (fun _ => rfl) (fun xs h => by simp only [D.py, PyData.hasDict]; exact h) (fun xs h => by simp only [D.py, PyData.hasDict]; exact h)
    (fun _ => rfl) (fun _ _ _ => rfl) (fun _ _ _ _ => rfl) (fun _ => rfl) (fun _ => rfl) (fun _ _ => rfl) (fun _ _ _ => rfl) rfl (fun x xs h1 h2 => by simp only [D.pys, PyData.hasDictAll, h1, h2]; rfl) d)
theorem cb_repr {X : Cx} {k : Nat} (hr : Rm k X.A) : CB X (.builtin "repr") reprD := by
  intro pins s σ H vs us Q I r ⟨W, m, ds, Wy, e, S, rs, h⟩
  subst e
  unfold reprD at h
  split at h
  case h_2 => exact h.elim
  rename_i d
  obtain ⟨v, rfl, r1⟩ := drs1 rs
  have rd := look_rd S r1
  split at h
  case h_2 => exact h.elim
  rename_i n hn
  split at h
  case isFalse => exact h.elim
  rename_i hc
  obtain ⟨u, rfl, ru⟩ := vals1 r
  obtain ⟨hp, hl0, hdep⟩ := rd_dp hn rd
  have hq : ∀ t s', L2.Inv X pins σ W.H s' → EP X pins σ Q (.str (look m d).py.shown t) s' := fun t s' I' => ⟨.str (look m d).py.shown, W.H, I', ⟨t, rfl⟩, fin S h (by simp only [DR]; unfold reprC; rw [toS_cps])⟩
  have hz : (look m d).py.shown.length ≤ sizeLine := by
    have := hc.2.2
    unfold reprC at this
    rw [SZ_eq]
    simpa [Str.length] using this
  obtain ⟨as, rds⟩ := Dp.reads I _ _ _ hp ru
  have hu := hr.u64
  generalize hD : look m d = D0 at *
  have fin2 : ∀ a, u = Value.ref a → wpAny (model X.prog X.w) X.A (call (.builtin "repr") [u]) (EP X pins σ Q) X.xe s := fun a ha => by
    subst ha
    exact repr_of_reads' rds hc.2.1 (PyData.noDict_hsm (pd_nodict _)) hr.gd (by rw [hdep]; omega) (fun _ _ e => e) (fun h' u tk hk => hq _ _ (I.kept hk)) hz
  cases D0 with
  | non =>
    cases hp
    cases ru
    exact PySem.P.repr_of_none (hq _ _ (I.tok _))
  | bl b =>
    cases hp
    cases ru
    exact PySem.P.repr_of_bool (hq _ _ (I.tok _))
  | int i =>
    cases hp
    obtain ⟨t, rfl⟩ := ru
    have hi : i.natAbs.log2 < 1920 := by
      have := hc.2.1
      simpa [D.py, PyData.showable] using this
    exact PySem.P.repr_of_int hi (hq _ _ (I.tok _))
  | str x =>
    cases hp
    obtain ⟨t, rfl⟩ := ru
    exact PySem.P.repr_of_str (hq _ _ (I.tok _)) (by simpa [D.py, PyData.shown] using hz)
  | tup xs =>
    simp only [D.py] at hp
    cases hp
    exact fin2 _ ru
  | lst xs =>
    simp only [D.py] at hp
    cases hp
    exact fin2 _ ru
  | _ => simp [D.pd] at hn
/-! isinstance -/
def kindD (m : Mu) (d : D) : Option String := match look m d with
  | .non => some "NoneType"
  | .bl _ => some "bool"
  | .int _ => some "int"
  | .str _ => some "str"
  | .tup _ => some "tuple"
  | .lst _ => some "list"
  | .scr _ => some "list"
  | .dct _ _ => some "dict"
  | _ => none
/-- isinstance of one built-in class -/
def isBB (a b : String) : Option Bool :=
  if b = "int" then some (a = "int" || a = "bool") else if b = "str" then some (a = "str") else if b = "bool" then some (a = "bool") else if b = "tuple" then some (a = "tuple") else if b = "list" then some (a = "list") else if b = "dict" then some (a = "dict") else none
theorem isBB_kit {K : PySem.W.Frag} {m : Mu} {d : D} {a b : String} {r : Bool} (h : kindD m d = some a) (hb : isBB a b = some r) : PySem.W.kitOne K (.type a) (.type b) = some r := by
  have ha : a ∈ ["NoneType", "bool", "int", "str", "tuple", "list", "dict"] := by
    unfold kindD at h
    split at h <;> simp_all <;> subst h <;> simp
  have hb' : b ∈ ["int", "str", "bool", "tuple", "list", "dict"] := by
    unfold isBB at hb
    simp only [List.mem_cons, List.not_mem_nil, or_false]
    by_cases h1 : b = "int" <;> by_cases h2 : b = "str" <;> by_cases h3 : b = "bool" <;> by_cases h4 : b = "tuple" <;> by_cases h5 : b = "list" <;> by_cases h6 : b = "dict" <;> simp_all
  have : ∀ a ∈ ["NoneType", "bool", "int", "str", "tuple", "list", "dict"], ∀ b ∈ ["int", "str", "bool", "tuple", "list", "dict"], kitB a b = isBB a b := by decide +kernel
  exact kit_ty ((this a ha b hb').trans hb)
theorem ty_of {X : Cx} {W : Wd} {m : Mu} {d : D} {v : V} {a : String} (S : Sim X.K X.mg W m) (r : DR X.K X.mg W d v) (h : kindD m d = some a) : TyX X.K W.H v (.type a) := by
  have rd := look_rd S r
  unfold kindD at h
  split at h
  · rename_i hx
    rw [hx] at rd; simp only [RD, DR] at rd; subst rd; cases h; exact .base .non
  · rename_i b hx
    rw [hx] at rd; simp only [RD, DR] at rd; subst rd; cases h; exact .base (.bl b)
  · rename_i b hx
    rw [hx] at rd; simp only [RD, DR] at rd; subst rd; cases h; exact .base (.int b)
  · rename_i b hx
    rw [hx] at rd; simp only [RD, DR] at rd; subst rd; cases h; exact .base (.str _)
  · rename_i xs hx
    rw [hx] at rd; simp only [RD, DR] at rd
    obtain ⟨a, vs, rfl, ha, rs⟩ := rd
    cases h
    exact .base (.tup ha.1)
  · rename_i xs hx
    rw [hx] at rd
    obtain ⟨a, vs, rfl, ha, rs⟩ := rd
    cases h
    exact .base (.lst ha)
  · rename_i xs hx
    rw [hx] at rd; simp only [RD, DR] at rd
    obtain ⟨a, rfl, ha⟩ := rd
    cases h
    rcases ha with ⟨ha | ⟨o, ha⟩, _⟩ | ⟨o, its, n, hl, hc, _⟩
    · exact .base (.lst ha)
    · exact .base (.frz ha)
    · exact .kList hl hc
  · rename_i ks ds hx
    rw [hx] at rd
    obtain ⟨a, kvs, rfl, ha, hk, rs⟩ := rd
    cases h
    rcases ha with ha | ⟨o, ha⟩
    · exact .base (.dK ha)
    · exact .fDict ha
  · cases h
/-- what a class needs that isinstance of its instances is known; kids: the classes -/
structure IsOk (X : Cx) (cs : List String) : Prop where
  own : ∀ c ∈ cs, ∀ C, X.mg (nm c) = some (.ref C) → Cls X.K C ∧ PySem.W.findIn X.K (.ref C) "__class__" = some (some (.builtin "object.__class__")) ∧ PySem.W.specialIn X.K (.builtin "object.__class__") "__get__" = some (some (.builtin "getset_descriptor.__get__")) ∧
    PySem.W.takesIn X.K (.builtin "object.__class__") = some true ∧ PySem.W.mroIn X.K C (.type "object") = some true
  ty : ∀ c ∈ cs, ∀ C, X.mg (nm c) = some (.ref C) → ∀ b ∈ ["int", "str", "bool", "tuple", "list", "dict"], PySem.W.kitOne X.K (.ref C) (.type b) = some false
  is : ∀ c ∈ cs, ∀ C, X.mg (nm c) = some (.ref C) → ∀ c' ∈ cs, ∀ C', X.mg (nm c') = some (.ref C') → PySem.W.kitOne X.K (.ref C) (.ref C') = some (decide (c = c'))
  kin : ∀ c ∈ cs, ∀ C, X.mg (nm c) = some (.ref C) → ∀ a ∈ ["NoneType", "bool", "int", "str", "tuple", "list", "dict"], PySem.W.kitOne X.K (.type a) (.ref C) = some false
def isinstD (cs : List String) : BFn := fun ds m => match ds with
  | [d, .ty b] => match kindD m d with
    | some a => match isBB a b with
      | some r => .ok (.bl r) m
      | none => .bad
    | none => match look m d with
      | .ins c _ _ => if c ∈ cs ∧ b ∈ ["int", "str", "bool", "tuple", "list", "dict"] then .ok (.bl false) m else .bad
      | _ => .bad
  | [d, .glo c'] => if c' ∈ cs then match kindD m d with
      | some a => .ok (.bl false) m
      | none => match look m d with
        | .ins c _ _ => if c ∈ cs then .ok (.bl (decide (c = c'))) m else .bad
        | _ => .bad
    else .bad
  | _ => .bad
theorem kindD_mem {m : Mu} {d : D} {a : String} (h : kindD m d = some a) : a ∈ ["NoneType", "bool", "int", "str", "tuple", "list", "dict"] := by
  unfold kindD at h
  split at h <;> simp_all <;> subst h <;> simp
theorem ins_ty {X : Cx} {cs : List String} {W : Wd} {m : Mu} {d : D} {v : V} {c : String} {ns : List String} {ds : List D} (O : IsOk X cs) (S : Sim X.K X.mg W m) (r : DR X.K X.mg W d v) (h : look m d = .ins c ns ds) (hc : c ∈ cs) : ∃ C, X.mg (nm c) = some (.ref C) ∧ TyX X.K W.H v (.ref C) := by
  have rd := look_rd S r
  rw [h] at rd
  obtain ⟨a, C, dx, fs, rfl, ea, hm, hf, rs⟩ := rd
  obtain ⟨h1, h2, h3, h4, h5⟩ := O.own c hc C hm
  exact ⟨C, hm, .base (.ins ea h1 h2 h3 h4 h5)⟩
theorem cb_isinst {X : Cx} {cs : List String} (O : IsOk X cs) : CB X (.builtin "isinstance") (isinstD cs) := by
  intro pins s σ H vs us Q I r ⟨W, m, ds, Wy, e, S, rs, h⟩
  subst e
  unfold isinstD at h
  split at h
  · rename_i d b
    obtain ⟨v, u, rfl, r1, r2⟩ := drs2 rs
    simp only [DR] at r2
    subst r2
    split at h
    · rename_i a ha
      split at h
      · rename_i k hk
        exact call_isi pins s σ W.H _ us Q I r ⟨v, .ty b, .type a, .type b, k, rfl, .ty b, ty_of S r1 ha, isBB_kit ha hk, fin S h (by simp only [DR])⟩
      · exact h.elim
    · split at h
      · rename_i c ns ds hl
        split at h
        · rename_i hc
          obtain ⟨C, hm, ht⟩ := ins_ty O S r1 hl hc.1
          exact call_isi pins s σ W.H _ us Q I r ⟨v, .ty b, .ref C, .type b, false, rfl, .ty b, ht, O.ty c hc.1 C hm b hc.2, fin S h (by simp only [DR])⟩
        · exact h.elim
      · exact h.elim
  · rename_i d c'
    obtain ⟨v, u, rfl, r1, r2⟩ := drs2 rs
    simp only [DR] at r2
    obtain ⟨C', rfl, hC'⟩ := r2
    split at h
    case isFalse => exact h.elim
    rename_i hc'
    split at h
    · rename_i a ha
      exact call_isi pins s σ W.H _ us Q I r ⟨v, .ref C', .type a, .ref C', false, rfl, .own C', ty_of S r1 ha, O.kin c' hc' C' hC' a (kindD_mem ha), fin S h (by simp only [DR])⟩
    · split at h
      · rename_i c ns ds hl
        split at h
        · rename_i hc
          obtain ⟨C, hm, ht⟩ := ins_ty O S r1 hl hc
          exact call_isi pins s σ W.H _ us Q I r ⟨v, .ref C', .ref C, .ref C', decide (c = c'), rfl, .own C', ht, O.is c hc C hm c' hc' C' hC', fin S h (by simp only [DR])⟩
        · exact h.elim
      · exact h.elim
  · exact h.elim
end Dn
set_option Elab.async false
set_option linter.all false
set_option maxRecDepth 100000
set_option maxHeartbeats 2000000
namespace Dn
open PySem PySem.Spec PyProof.Rows L2
/-! ### order -/
/-- x before y, of alike things -/
def ltP (x y : D) : Bool := PySem.W.dataLt x.py y.py
/-- all of one kind, none of them None -/
def alikeB (ds : List D) : Bool := ds.all fun a => ds.all fun b => PySem.W.alike a.py b.py && (match a with | .non => false | _ => true)
mutual
theorem py_inj : ∀ (d e : D) (n k : Nat), d.pd = some n → e.pd = some k → d.py = e.py → d = e
  | .non, e, n, k, h, h', q => by cases e <;> simp_all [D.pd, D.py]
  | .bl b, e, n, k, h, h', q => by cases e <;> simp_all [D.pd, D.py]
  | .int b, e, n, k, h, h', q => by cases e <;> simp_all [D.pd, D.py]
  | .str b, e, n, k, h, h', q => by
    cases e with
    | str c => simp only [D.py, PyData.str.injEq] at q; rw [toS_inj q]
    | _ => simp_all [D.pd, D.py]
  | .tup xs, e, n, k, h, h', q => by
    cases e with
    | tup ys =>
      simp only [D.pd, Option.map_eq_some_iff] at h h'
      obtain ⟨a, ha, _⟩ := h
      obtain ⟨b, hb, _⟩ := h'
      simp only [D.py, PyData.tuple.injEq] at q
      rw [pys_inj xs ys a b ha hb q]
    | _ => simp_all [D.pd, D.py]
  | .lst xs, e, n, k, h, h', q => by
    cases e with
    | lst ys =>
      simp only [D.pd, Option.map_eq_some_iff] at h h'
      obtain ⟨a, ha, _⟩ := h
      obtain ⟨b, hb, _⟩ := h'
      simp only [D.py, PyData.list.injEq] at q
      rw [pys_inj xs ys a b ha hb q]
    | _ => simp_all [D.pd, D.py]
  | .ty _, _, _, _, h, _, _ | .scr _, _, _, _, h, _, _ | .dct _ _, _, _, _, h, _, _ | .ins _ _ _, _, _, _, h, _, _ | .ref _, _, _, _, h, _, _ | .glo _, _, _, _, h, _, _ => by simp [D.pd] at h
theorem pys_inj : ∀ (ds es : List D) (n k : Nat), D.pds ds = some n → D.pds es = some k → D.pys ds = D.pys es → ds = es
  | [], [], n, k, h, h', q => rfl
  | [], e :: es, n, k, h, h', q => by simp [D.pys] at q
  | d :: ds, [], n, k, h, h', q => by simp [D.pys] at q
  | d :: ds, e :: es, n, k, h, h', q => by
    simp only [D.pds] at h h'
    split at h
    · rename_i a b ha hb
      split at h'
      · rename_i a' b' ha' hb'
        simp only [D.pys, List.cons.injEq] at q
        rw [py_inj d e a a' ha ha' q.1, pys_inj ds es b b' hb hb' q.2]
      · cases h'
    · cases h
end
theorem pys_map : ∀ ds : List D, D.pys ds = ds.map D.py
  | [] => rfl
  | d :: ds => by simp only [D.pys, List.map_cons, pys_map ds]
theorem pds_mem : ∀ {ds : List D} {n : Nat}, D.pds ds = some n → ∀ d ∈ ds, ∃ k, d.pd = some k ∧ k ≤ n
  | [], n, h, d, hd => by cases hd
  | x :: ds, n, h, d, hd => by
    simp only [D.pds] at h
    split at h
    · rename_i a b ha hb
      cases h
      rcases List.mem_cons.mp hd with rfl | hd
      · exact ⟨a, ha, Nat.le_max_left _ _⟩
      · obtain ⟨k, h1, h2⟩ := pds_mem hb d hd
        exact ⟨k, h1, Nat.le_trans h2 (Nat.le_max_right _ _)⟩
    · cases h
theorem alikeB_of {ds : List D} {n : Nat} (h : alikeB ds = true) (hp : D.pds ds = some n) : PySem.W.AlikeAll (ds.map D.py) := by
  unfold alikeB at h
  simp only [List.all_eq_true, Bool.and_eq_true] at h
  refine ⟨fun x hx y hy => ?_, fun x hx => ?_⟩
  · obtain ⟨a, ha, rfl⟩ := List.mem_map.mp hx
    obtain ⟨b, hb, rfl⟩ := List.mem_map.mp hy
    exact (h a ha b hb).1
  · obtain ⟨a, ha, rfl⟩ := List.mem_map.mp hx
    obtain ⟨k, hk, _⟩ := pds_mem hp a ha
    have h2 := (h a ha a ha).2
    cases a <;> simp_all [D.py, D.pd]
def bestBy (lt : D → D → Bool) (d : D) (ds : List D) : D := ds.foldl (fun a y => if lt y a then y else a) d
theorem bestBy_mem (lt : D → D → Bool) : ∀ (ds : List D) (d : D), bestBy lt d ds ∈ d :: ds
  | [], d => List.mem_singleton.mpr rfl
  | x :: ds, d => by
    have := bestBy_mem lt ds (if lt x d then x else d)
    unfold bestBy at this ⊢
    rw [List.foldl_cons]
    rcases List.mem_cons.mp this with h | h
    · rw [h]
      split
      · exact List.mem_cons_of_mem _ List.mem_cons_self
      · exact List.mem_cons_self
    · exact List.mem_cons_of_mem _ (List.mem_cons_of_mem _ h)
theorem minD_py : ∀ (ds : List D) (d : D), PySem.W.minD d.py (ds.map D.py) = (bestBy (fun y a => ltP y a) d ds).py
  | [], d => rfl
  | x :: ds, d => by
    have := minD_py ds (if ltP x d then x else d)
    unfold PySem.W.minD bestBy at this ⊢
    rw [List.map_cons, List.foldl_cons, List.foldl_cons, ← this]
    congr 1
    unfold ltP
    split <;> rfl
theorem maxD_py : ∀ (ds : List D) (d : D), PySem.W.maxD d.py (ds.map D.py) = (bestBy (fun y a => ltP a y) d ds).py
  | [], d => rfl
  | x :: ds, d => by
    have := maxD_py ds (if ltP d x then x else d)
    unfold PySem.W.maxD bestBy at this ⊢
    rw [List.map_cons, List.foldl_cons, List.foldl_cons, ← this]
    congr 1
    unfold ltP
    split <;> rfl
/-- the items of a list or a tuple, in the heap -/
theorem seq_at {X : Cx} {W : Wd} {m : Mu} {x : D} {v : V} {ds : List D} {pins : List (Addr × Obj)} {σ : L2.St} {s : Shared} {n : Nat} (I : L2.Inv X pins σ W.H s) (S : Sim X.K X.mg W m) (r : DR X.K X.mg W x v) (h : seqOf m x = some ds) (hp : D.pds ds = some n) :
    ∃ a vs its as, v = .ref a ∧ DRs X.K X.mg W ds vs ∧ Vals vs its ∧ (s.heap.IsTuple a its.toArray ∨ s.heap.IsList a its.toArray) ∧ ReadsAll s.heap its (ds.map D.py) as ∧ PyData.depthAll (ds.map D.py) = n ∧ its.length ≤ SZ := by
  obtain ⟨a, vs, rfl, hs, rs⟩ := seq_of S r h
  obtain ⟨hd, hc, hn⟩ := pds_dp ds vs n hp rs
  rw [pys_map] at hd hn
  rcases hs with hs | hs
  · obtain ⟨its, rv, pl, hz⟩ := I.tuple hs
    obtain ⟨as, ra⟩ := Dp.readsAll I _ _ _ hd rv
    exact ⟨a, vs, its, as, rfl, rs, rv, .inl pl, ra, hn, by rw [← rv.length, ← SZ_eq]; exact hz⟩
  · obtain ⟨its, rv, pl, hz⟩ := I.list hs
    obtain ⟨as, ra⟩ := Dp.readsAll I _ _ _ hd rv
    exact ⟨a, vs, its, as, rfl, rs, rv, .inr pl.isList, ra, hn, by rw [← rv.length, ← SZ_eq]; exact hz⟩
theorem reads_at {h : Heap} : ∀ {its : List Value} {ps : List PyData} {as : List Addr}, ReadsAll h its ps as → ∀ (i : Nat) (v : Value), its[i]? = some v → ∃ p bs, ps[i]? = some p ∧ Reads h v p bs
  | _, _, _, .nil, i, v, e => by cases e
  | _, _, _, .cons r t, 0, v, e => by cases e; exact ⟨_, _, rfl, r⟩
  | _, _, _, .cons r t, i + 1, v, e => by
    obtain ⟨p, bs, h1, h2⟩ := reads_at t i v e
    exact ⟨p, bs, h1, h2⟩
theorem drs_at {K : PySem.W.Frag} {mg : Str → Option Value} {W : Wd} : ∀ {ds : List D} {vs : List V} {its : List Value} {i : Nat} {d : D} {u : Value}, DRs K mg W ds vs → Vals vs its → ds[i]? = some d → its[i]? = some u → ∃ v, DR K mg W d v ∧ RelV v u
  | [], _, _, _, _, _, r, _, h, _ => by cases h
  | d :: ds, vs, its, i, _, _, r, rv, h, h' => by
    simp only [DRs] at r
    obtain ⟨v, l, rfl, r1, r2⟩ := r
    cases rv with
    | cons q t =>
      cases i with
      | zero => cases h; cases h'; exact ⟨v, r1, q⟩
      | succ i => exact drs_at r2 t (by simpa using h) (by simpa using h')
theorem best_rel {K : PySem.W.Frag} {mg : Str → Option Value} {W : Wd} {h h' : Heap} {ds : List D} {vs : List V} {its : List Value} {as bs : List Addr} {n i : Nat} {v : Value} {d : D} (rs : DRs K mg W ds vs) (rv : Vals vs its) (ra : ReadsAll h its (ds.map D.py) as) (hp : D.pds ds = some n)
    (ha : PySem.W.AlikeAll (ds.map D.py)) (hk : ∀ b o, h.get? b = some o → h'.get? b = some o) (hi : its[i]? = some v) (hr : Reads h' v d.py bs) (hm : d ∈ ds) : ∃ y, DR K mg W d y ∧ RelV y v := by
  obtain ⟨p, cs, h1, h2⟩ := reads_at ra i v hi
  rw [List.getElem?_map, Option.map_eq_some_iff] at h1
  obtain ⟨e, he, rfl⟩ := h1
  have hme : e ∈ ds := List.mem_of_getElem? he
  have := PySem.W.alike_unique _ _ v _ _ (ha.1 _ (List.mem_map_of_mem hme) _ (List.mem_map_of_mem hm)) (PyProof.Rows.Reads.keeps (fun b o => hk b o) h2) hr
  obtain ⟨k1, q1, _⟩ := pds_mem hp e hme
  obtain ⟨k2, q2, _⟩ := pds_mem hp d hm
  have ed : e = d := py_inj e d k1 k2 q1 q2 this
  subst ed
  exact drs_at rs rv he hi
def bestD (lt : D → D → Bool) (x : D) (m : Mu) : Rs D := match seqOf m x with
  | some (d :: ds) => match D.pds (d :: ds) with
    | some n => if n ≤ 60 ∧ alikeB (d :: ds) = true then .ok (bestBy lt d ds) m else .bad
    | none => .bad
  | _ => .bad
def best2 (lt : Int → Int → Bool) (lts : Cs → Cs → Bool) : D → D → Mu → Rs D
  | .int i, .int j, m => .ok (.int (if lt j i then j else i)) m
  | .str i, .str j, m => .ok (.str (if lts j i then j else i)) m
  | _, _, _ => .bad
def minF : BFn := fun ds m => match ds with
  | [x] => bestD (fun y a => ltP y a) x m
  | [x, y] => best2 (fun y a => decide (y < a)) (fun y a => ltC y a) x y m
  | _ => .bad
def maxF : BFn := fun ds m => match ds with
  | [x] => bestD (fun y a => ltP a y) x m
  | [x, y] => best2 (fun y a => decide (y > a)) (fun y a => ltC a y) x y m
  | _ => .bad
theorem min_data1 {X : Cx} {k : Nat} (hr : Rm k X.A) (hc : X.calm = true) {pins : List (Addr × Obj)} {s : Shared} {σ : L2.St} {vs : List V} {us : List Value} {Q : VK} {W : Wd} {m : Mu} {x : D} {Wy : Value → Option Addr → Hp → Prop} (I : L2.Inv X pins σ W.H s) (r : Vals vs us) (S : Sim X.K X.mg W m) (rs : DRs X.K X.mg W [x] vs)
    (h : Post X.K X.mg (fun W => DR X.K X.mg W) Wy W Q (bestD (fun y a => ltP y a) x m)) : wpAny (model X.prog X.w) X.A (call (.builtin "min") us) (EP X pins σ Q) X.xe s := by
  obtain ⟨v, rfl, r1⟩ := drs1 rs
  unfold bestD at h
  split at h
  case h_2 => exact h.elim
  rename_i d ds hq
  split at h
  case h_2 => exact h.elim
  rename_i n hn
  split at h
  case isFalse => exact h.elim
  rename_i hc2
  obtain ⟨a, vs, its, as, rfl, rs, rv, hit, ra, hdn, _⟩ := seq_at I S r1 hq hn
  rw [Vals.ref1 r]
  have ha := alikeB_of hc2.2 hn
  have hu := hr.u64
  have fin' : ∀ (i : Nat) v h' tk bs, its.toArray[i]? = some v → Reads h' v (PySem.W.minD d.py (ds.map D.py)) bs → (∀ b o, s.heap.get? b = some o → h'.get? b = some o) → EP X pins σ Q v { s with heap := h', toks := tk } := fun i v h' tk bs hi hrd hk => by
    rw [minD_py] at hrd
    obtain ⟨y, hy, hyr⟩ := best_rel rs rv ra hn ha hk (by simpa using hi) hrd (bestBy_mem _ ds d)
    exact ⟨y, W.H, I.kept hk, hyr, fin S h hy⟩
  rcases hit with hl | hl
  · exact PySem.W.min_tuple_data (I.ok.hd hc) hl (by simpa using ra) ha (by rw [List.map_cons] at hdn; rw [hdn]; omega) fin'
  · exact PySem.W.min_list_data (I.ok.hd hc) hl (by simpa using ra) ha (by rw [List.map_cons] at hdn; rw [hdn]; omega) fin'
theorem max_data1 {X : Cx} {k : Nat} (hr : Rm k X.A) (hc : X.calm = true) {pins : List (Addr × Obj)} {s : Shared} {σ : L2.St} {vs : List V} {us : List Value} {Q : VK} {W : Wd} {m : Mu} {x : D} {Wy : Value → Option Addr → Hp → Prop} (I : L2.Inv X pins σ W.H s) (r : Vals vs us) (S : Sim X.K X.mg W m) (rs : DRs X.K X.mg W [x] vs)
    (h : Post X.K X.mg (fun W => DR X.K X.mg W) Wy W Q (bestD (fun y a => ltP a y) x m)) : wpAny (model X.prog X.w) X.A (call (.builtin "max") us) (EP X pins σ Q) X.xe s := by
  obtain ⟨v, rfl, r1⟩ := drs1 rs
  unfold bestD at h
  split at h
  case h_2 => exact h.elim
  rename_i d ds hq
  split at h
  case h_2 => exact h.elim
  rename_i n hn
  split at h
  case isFalse => exact h.elim
  rename_i hc2
  obtain ⟨a, vs, its, as, rfl, rs, rv, hit, ra, hdn, _⟩ := seq_at I S r1 hq hn
  rw [Vals.ref1 r]
  have ha := alikeB_of hc2.2 hn
  have hu := hr.u64
  have fin' : ∀ (i : Nat) v h' tk bs, its.toArray[i]? = some v → Reads h' v (PySem.W.maxD d.py (ds.map D.py)) bs → (∀ b o, s.heap.get? b = some o → h'.get? b = some o) → EP X pins σ Q v { s with heap := h', toks := tk } := fun i v h' tk bs hi hrd hk => by
    rw [maxD_py] at hrd
    obtain ⟨y, hy, hyr⟩ := best_rel rs rv ra hn ha hk (by simpa using hi) hrd (bestBy_mem _ ds d)
    exact ⟨y, W.H, I.kept hk, hyr, fin S h hy⟩
  rcases hit with hl | hl
  · exact PySem.W.max_tuple_data (I.ok.hd hc) hl (by simpa using ra) ha (by rw [List.map_cons] at hdn; rw [hdn]; omega) fin'
  · exact PySem.W.max_list_data (I.ok.hd hc) hl (by simpa using ra) ha (by rw [List.map_cons] at hdn; rw [hdn]; omega) fin'
/-! of two texts -/
theorem min2_strs {prog : Program} {w : World} {A : Around} {E : Value → Shared → Prop} {s : Shared} {a b : Str} {t u : Tok} {Q : Value → Shared → Prop} (hh : A.handled = none)
    (h : ∀ h' tk, (∀ c o, s.heap.get? c = some o → h'.get? c = some o) → Q (if b.cps.toList < a.cps.toList then .str b u else .str a t) { s with heap := h', toks := tk }) : wpAny (model prog w) A (call (.builtin "min") [.str a t, .str b u]) Q E s := by
  have hT : (s.heap.push { cls := .type "tuple", data := .seq #[.str a t, .str b u] }).IsTuple s.heap.objs.size #[.str a t, .str b u] := ⟨_, Heap.get?_push_size _ rfl, rfl, 0, rfl⟩
  have hsz : (s.heap.push { cls := .type "tuple", data := .seq #[.str a t, .str b u] }).objs.size = s.heap.objs.size + 1 := Heap.size_push ..
  refine call_min_two (wpAny_pyIter_tuple hT ⟨_, [_, s.heap.objs.size], [_], _, _, _, fun i j => decide (([a, b].getD i a).cps.toList < ([a, b].getD j a).cps.toList), rfl, Walks.tuple (A := A.in1) hh _ s.heap.objs.size (by rw [hsz]; exact Nat.ne_of_lt (Nat.lt_succ_self _)) #[.str a t, .str b u],
    ⟨⟨_, Heap.get?_push_size _ rfl, rfl, rfl⟩, hT.push _⟩, fun c hc => ?_, by simp, fun i j vi vj s' Q' E' hi hj hq => ?_, fun v h' tk hP hk => ?_⟩)
  · show c < ((s.heap.push _).push _).objs.size
    rw [Heap.size_push, hsz]
    rcases List.mem_cons.mp hc with e | hc
    · rw [e, hsz]; exact Nat.lt_succ_self _
    · rw [List.mem_singleton.mp hc]; exact Nat.lt_succ_of_lt (Nat.lt_succ_self _)
  · have gt : ∀ (i : Nat) (v : Value), (#[Value.str a t, Value.str b u])[i]? = some v → ∃ z, v = .str ([a, b].getD i a) z := by
      intro i v e
      match i with
      | 0 => exact ⟨t, by simpa using e.symm⟩
      | 1 => exact ⟨u, by simpa using e.symm⟩
      | i + 2 => simp at e
    obtain ⟨z, rfl⟩ := gt i vi hi
    obtain ⟨z', rfl⟩ := gt j vj hj
    exact PySem.P.lt_str hq
  · have hold : ∀ c o, s.heap.get? c = some o → h'.get? c = some o := fun c o e => by
      refine hk c o (fun hm => ?_) (Heap.get?_push_of_some _ (Heap.get?_push_of_some _ e))
      have e1 := List.mem_singleton.mp hm
      have := Heap.lt_size e
      rw [e1, hsz] at this
      exact Nat.lt_irrefl _ (Nat.lt_of_succ_lt this)
    have hv : v = if b.cps.toList < a.cps.toList then Value.str b u else Value.str a t := by
      by_cases hb : b.cps.toList < a.cps.toList
      · rw [if_pos hb]
        replace hP : (#[Value.str a t, Value.str b u])[if decide (b.cps.toList < a.cps.toList) = true then 1 else 0]? = some v := hP
        rw [decide_eq_true hb] at hP
        exact (Option.some.inj hP).symm
      · rw [if_neg hb]
        replace hP : (#[Value.str a t, Value.str b u])[if decide (b.cps.toList < a.cps.toList) = true then 1 else 0]? = some v := hP
        rw [decide_eq_false hb] at hP
        exact (Option.some.inj hP).symm
    rw [hv]
    exact h h' tk hold
theorem max2_strs {prog : Program} {w : World} {A : Around} {E : Value → Shared → Prop} {s : Shared} {a b : Str} {t u : Tok} {Q : Value → Shared → Prop} (hh : A.handled = none)
    (h : ∀ h' tk, (∀ c o, s.heap.get? c = some o → h'.get? c = some o) → Q (if a.cps.toList < b.cps.toList then .str b u else .str a t) { s with heap := h', toks := tk }) : wpAny (model prog w) A (call (.builtin "max") [.str a t, .str b u]) Q E s := by
  have hT : (s.heap.push { cls := .type "tuple", data := .seq #[.str a t, .str b u] }).IsTuple s.heap.objs.size #[.str a t, .str b u] := ⟨_, Heap.get?_push_size _ rfl, rfl, 0, rfl⟩
  have hsz : (s.heap.push { cls := .type "tuple", data := .seq #[.str a t, .str b u] }).objs.size = s.heap.objs.size + 1 := Heap.size_push ..
  refine call_max_two (wpAny_pyIter_tuple hT ⟨_, [_, s.heap.objs.size], [_], _, _, _, fun i j => decide (([a, b].getD j a).cps.toList < ([a, b].getD i a).cps.toList), rfl, Walks.tuple (A := A.in1) hh _ s.heap.objs.size (by rw [hsz]; exact Nat.ne_of_lt (Nat.lt_succ_self _)) #[.str a t, .str b u],
    ⟨⟨_, Heap.get?_push_size _ rfl, rfl, rfl⟩, hT.push _⟩, fun c hc => ?_, by simp, fun i j vi vj s' Q' E' hi hj hq => ?_, fun v h' tk hP hk => ?_⟩)
  · show c < ((s.heap.push _).push _).objs.size
    rw [Heap.size_push, hsz]
    rcases List.mem_cons.mp hc with e | hc
    · rw [e, hsz]; exact Nat.lt_succ_self _
    · rw [List.mem_singleton.mp hc]; exact Nat.lt_succ_of_lt (Nat.lt_succ_self _)
  · have gt : ∀ (i : Nat) (v : Value), (#[Value.str a t, Value.str b u])[i]? = some v → ∃ z, v = .str ([a, b].getD i a) z := by
      intro i v e
      match i with
      | 0 => exact ⟨t, by simpa using e.symm⟩
      | 1 => exact ⟨u, by simpa using e.symm⟩
      | i + 2 => simp at e
    obtain ⟨z, rfl⟩ := gt i vi hi
    obtain ⟨z', rfl⟩ := gt j vj hj
    exact PySem.P.gt_str hq
  · have hold : ∀ c o, s.heap.get? c = some o → h'.get? c = some o := fun c o e => by
      refine hk c o (fun hm => ?_) (Heap.get?_push_of_some _ (Heap.get?_push_of_some _ e))
      have e1 := List.mem_singleton.mp hm
      have := Heap.lt_size e
      rw [e1, hsz] at this
      exact Nat.lt_irrefl _ (Nat.lt_of_succ_lt this)
    have hv : v = if a.cps.toList < b.cps.toList then Value.str b u else Value.str a t := by
      by_cases hb : a.cps.toList < b.cps.toList
      · rw [if_pos hb]
        replace hP : (#[Value.str a t, Value.str b u])[if decide (a.cps.toList < b.cps.toList) = true then 1 else 0]? = some v := hP
        rw [decide_eq_true hb] at hP
        exact (Option.some.inj hP).symm
      · rw [if_neg hb]
        replace hP : (#[Value.str a t, Value.str b u])[if decide (a.cps.toList < b.cps.toList) = true then 1 else 0]? = some v := hP
        rw [decide_eq_false hb] at hP
        exact (Option.some.inj hP).symm
    rw [hv]
    exact h h' tk hold
theorem cb_min {X : Cx} {k : Nat} (hr : Rm k X.A) (hc : X.calm = true) : CB X (.builtin "min") minF := by
  intro pins s σ H vs us Q I r ⟨W, m, ds, Wy, e, S, rs, h⟩
  subst e
  unfold minF at h
  split at h
  · exact min_data1 hr hc I r S rs h
  · obtain ⟨v, v', rfl, r1, r2⟩ := drs2 rs
    unfold best2 at h
    split at h
    · simp only [DR] at r1 r2
      subst r1 r2
      exact call_min2 hc pins s σ W.H _ us Q I r ⟨_, _, rfl, fin S h (by simp only [DR, decide_eq_true_eq])⟩
    · simp only [DR] at r1 r2
      subst r1 r2
      obtain ⟨u1, u2, rfl, ⟨t1, rfl⟩, t2, rfl⟩ := vals2 r
      refine min2_strs (I.ok.hd hc) fun h' tk hk => ?_
      rename_i x y
      simp only [toS_toList]
      by_cases hxy : y < x
      · rw [if_pos hxy]
        exact ⟨.str (toS y), W.H, I.kept hk, ⟨_, rfl⟩, fin S h (by simp [DR, ltC, hxy])⟩
      · rw [if_neg hxy]
        exact ⟨.str (toS x), W.H, I.kept hk, ⟨_, rfl⟩, fin S h (by simp [DR, ltC, hxy])⟩
    · exact h.elim
  · exact h.elim
theorem cb_max {X : Cx} {k : Nat} (hr : Rm k X.A) (hc : X.calm = true) : CB X (.builtin "max") maxF := by
  intro pins s σ H vs us Q I r ⟨W, m, ds, Wy, e, S, rs, h⟩
  subst e
  unfold maxF at h
  split at h
  · exact max_data1 hr hc I r S rs h
  · obtain ⟨v, v', rfl, r1, r2⟩ := drs2 rs
    unfold best2 at h
    split at h
    · simp only [DR] at r1 r2
      subst r1 r2
      exact call_max2 hc pins s σ W.H _ us Q I r ⟨_, _, rfl, fin S h (by simp only [DR, decide_eq_true_eq])⟩
    · simp only [DR] at r1 r2
      subst r1 r2
      obtain ⟨u1, u2, rfl, ⟨t1, rfl⟩, t2, rfl⟩ := vals2 r
      refine max2_strs (I.ok.hd hc) fun h' tk hk => ?_
      rename_i x y
      simp only [toS_toList]
      by_cases hxy : x < y
      · rw [if_pos hxy]
        exact ⟨.str (toS y), W.H, I.kept hk, ⟨_, rfl⟩, fin S h (by simp [DR, ltC, hxy])⟩
      · rw [if_neg hxy]
        exact ⟨.str (toS x), W.H, I.kept hk, ⟨_, rfl⟩, fin S h (by simp [DR, ltC, hxy])⟩
    · exact h.elim
  · exact h.elim
/-! sorted -/
def sortL (ds : List D) : List D := ds.mergeSort fun a b => !ltP b a
def sortOk (ds : List D) : Bool := (ds.all fun d => match d with | .tup (_ :: _) => true | _ => false) || (ds.all fun d => match d with | .tup _ => false | _ => true)
def dkD : DKey → D
  | .i n => .int n
  | .s x => .str x
/-- the items of a tuple alone -/
def tupOf (m : Mu) (d : D) : Option (List D) := match look m d with
  | .tup ds => some ds
  | _ => none
def sortedF : BFn := fun ds m => match ds with
  | [x] => match lstOf m x with
    | some ds => match D.pds ds with
      | some n => if n ≤ 60 ∧ alikeB ds = true ∧ sortOk ds = true then .ok (.lst (sortL ds)) m else .bad
      | none => .bad
    | none => match tupOf m x with
      | some ds => match D.pds ds with
        | some n => if n ≤ 60 ∧ alikeB ds = true ∧ sortOk ds = true then .ok (.lst (sortL ds)) m else .bad
        | none => .bad
      | none => .bad
  | _ => .bad
theorem each_of {K : PySem.W.Frag} {mg : Str → Option Value} {W : Wd} : ∀ {ds : List D} {vs : List V} {its : List Value}, DRs K mg W ds vs → Vals vs its → PySem.W.EachIs (fun u d => ∃ y, DR K mg W d y ∧ RelV y u) its ds
  | [], _, _, r, rv => by
    simp only [DRs] at r
    subst r
    cases rv
    exact .nil
  | d :: ds, _, _, r, rv => by
    simp only [DRs] at r
    obtain ⟨v, l, rfl, r1, r2⟩ := r
    cases rv with
    | cons q t => exact .cons ⟨v, r1, q⟩ (each_of r2 t)
theorem of_each {K : PySem.W.Frag} {mg : Str → Option Value} {W : Wd} : ∀ {ds : List D} {its : List Value}, PySem.W.EachIs (fun u d => ∃ y, DR K mg W d y ∧ RelV y u) its ds → ∃ vs, DRs K mg W ds vs ∧ Vals vs its
  | [], _, .nil => ⟨[], DRs.nil, .nil⟩
  | d :: ds, _, .cons ⟨y, h1, h2⟩ t => by
    obtain ⟨vs, h3, h4⟩ := of_each t
    exact ⟨y :: vs, DRs.cons h1 h3, .cons h2 h4⟩
theorem sortable_of {ds : List D} {n : Nat} (ha : PySem.W.AlikeAll (ds.map D.py)) (h : sortOk ds = true) : PySem.W.Sortable (ds.map D.py) := by
  unfold sortOk at h
  rw [Bool.or_eq_true] at h
  rcases h with h1 | h1
  · refine .inl fun d hd => ?_
    obtain ⟨b, hb, rfl⟩ := List.mem_map.mp hd
    have := List.all_eq_true.mp h1 b hb
    cases b with
    | tup xs =>
      cases xs with
      | nil => cases this
      | cons x xs => exact ⟨x.py, D.pys xs, by simp only [D.py, D.pys]⟩
    | _ => cases this
  · refine .inr fun d hd => ?_
    obtain ⟨b, hb, rfl⟩ := List.mem_map.mp hd
    refine ⟨ha.2 _ hd, fun xs hx => ?_⟩
    have := List.all_eq_true.mp h1 b hb
    cases b with
    | tup ys => cases this
    | _ => simp only [D.py] at hx; cases hx
/-- what is tracked is there -/
theorem live {P : Program} {w : World} {H : Hp} {h : Heap} {a : Addr} {o : HO} (x : ObjOk P w H h a o) : ∃ u, h.get? a = some u := by
  cases o with
  | lst xs => obtain ⟨_, _, _, _, e⟩ := x; exact ⟨_, e⟩
  | tup xs => obtain ⟨_, _, _, o, e, _⟩ := x; exact ⟨_, e⟩
  | dK kvs => obtain ⟨_, _, _, _, o, _, _, e, _⟩ := x; exact ⟨_, e⟩
  | dT kvs => obtain ⟨_, _, _, _, o, _, _, e, _⟩ := x; exact ⟨_, e⟩
  | set S n => obtain ⟨o, _, _, _, e, _⟩ := x; exact ⟨_, e⟩
  | ins C dx fs => obtain ⟨_, _, _, e, _⟩ := x; exact ⟨_, e⟩
  | own y => obtain ⟨_, e⟩ := x; exact ⟨_, e⟩
  | xd fs => obtain ⟨_, ⟨_, _, _, e, _⟩, _⟩ := x; exact ⟨_, e⟩
  | rng lo hi => obtain ⟨_, _, _, e⟩ := x; exact ⟨_, e⟩
  | frz ob u => obtain ⟨e, _⟩ := x; exact ⟨_, e⟩
  | tbl ps => exact ⟨_, (show h.get? a = some _ from x)⟩
  | met f y => exact ⟨_, (show h.get? a = some _ from x)⟩
  | ext φ => obtain ⟨_, ⟨_, e⟩, _⟩ := x; exact ⟨_, e⟩
/-- sorted of a tuple or list, over the heap -/
theorem sorted_seq {prog : Program} {w : World} {A : Around} {E : Value → Shared → Prop} {s : Shared} {β : Type} {vs : List Value} {bs : List β} {enc : β → PyData} {R : Value → β → Prop} {l : Addr} {o : Obj} {n : Nat} {T : String} {Q : Value → Shared → Prop} (hT : T = "list" ∨ T = "tuple") (ho : s.heap.get? l = some o) (hc : o.cls = .type T) (hd : o.data = .seq vs.toArray n)
    (e : PySem.W.EachIs R vs bs) (er : PySem.W.EachIs (fun v b => ∃ as, Reads s.heap v (enc b) as) vs bs) (hal : PySem.W.AllAlike (bs.map enc)) (hk : PySem.W.Sortable (bs.map enc)) (hL : vs.length ≤ sizeLine)
    (hu : ∀ b, b ∈ bs → A.units + 2 + (enc b).depth < cLine)
    (h : ∀ out h' a ep, out.length = bs.length → PySem.W.EachIs R out (bs.mergeSort (PySem.W.dataLe false enc)) → s.heap.get? a = none → (∀ b u, s.heap.get? b = some u → h'.get? b = some u) → h'.get? a = some (PyProof.Rows.seqObj "list" out.toArray ep) → Q (.ref a) { s with heap := h' }) :
    wpAny (model prog w) A (call (.builtin "sorted") [.ref l]) Q E s := by
  refine PySem.Calls.call_function_entry PyProof.Rows.kind_sorted PyProof.Rows.plain_sorted PyProof.Rows.entry_sorted (PyProof.Rows.args_sorted1 _) ?_
  unfold Builtin.«sorted»
  refine wpAny_bind (m := checkCount "sorted" 1 1 _) (wpAny_pure ?_)
  refine wpAny_bind (PySem.wpAny_collect_seq (A := A.in1) l hT ho hc hd (fun h1 hk1 => ?_) (by simpa using hL))
  have hn0 : h1.get? h1.objs.size = none := Heap.get?_none_of_le (Nat.le_refl _)
  refine wpAny_bind (wpAny_newList ?_ (by simpa using hL))
  have hget : (h1.push { cls := .type "list", data := .seq (vs.toArray.toList).toArray }).get? h1.objs.size = some (PyProof.Rows.seqObj "list" vs.toArray 0) := by
    rw [List.toList_toArray]
    exact Heap.get?_push_size _ rfl
  have hkp : ∀ b u, s.heap.get? b = some u → (h1.push { cls := .type "list", data := .seq (vs.toArray.toList).toArray }).get? b = some u := fun b u q => Heap.get?_push_of_some _ (hk1 b u q)
  refine wpAny_bind (wpAny_holding (PySem.W.list_sort_data (enc := enc) (n := 0) hget e (er.mono fun v b hx => ?_) hal hk (by rw [← e.length]; exact hL) (fun b hb => ?_) fun out hlen eo => ?_))
  · obtain ⟨as, r⟩ := hx
    refine ⟨as, PyProof.Rows.Reads.keeps (fun b o q => hkp b o q) r, fun hm => ?_⟩
    obtain ⟨u, q⟩ := PyProof.On.reads_mem_get r _ hm
    exact absurd (hk1 _ _ q) (by rw [hn0]; exact fun q => by cases q)
  · exact hu b hb
  · obtain ⟨ep, he⟩ := PyProof.Rows.sortedHeap_at (out := out.toArray) hget
    refine wpAny_pure ⟨_, rfl, h out _ h1.objs.size ep hlen eo ?_ (fun b u q => ?_) he⟩
    · cases q : s.heap.get? h1.objs.size with
      | none => rfl
      | some u => exact absurd (hk1 _ _ q) (by rw [hn0]; exact fun q => by cases q)
    · have hb := Heap.lt_size (hk1 b u q)
      rw [PyProof.Rows.sortedHeap_old (Nat.ne_of_lt hb) (Heap.lt_size (hkp b u q))]
      exact hkp b u q
theorem cb_sorted {X : Cx} {k : Nat} (hr : Rm k X.A) : CB X (.builtin "sorted") sortedF := by
  intro pins s σ H vs us Q I r ⟨W, m, ds, Wy, e, S, rs, h⟩
  subst e
  unfold sortedF at h
  split at h
  case h_2 => exact h.elim
  obtain ⟨v, evs, r1⟩ := drs1 rs
  have key : ∀ (ds : List D) (n : Nat) (a : Addr) (wt : List V), (SqT X.K W.H a wt ∨ SqL X.K W.H a wt) → v = .ref a → DRs X.K X.mg W ds wt → D.pds ds = some n → n ≤ 60 ∧ alikeB ds = true ∧ sortOk ds = true →
      Post X.K X.mg (fun W => DR X.K X.mg W) Wy W Q (.ok (.lst (sortL ds)) m) → wpAny (model X.prog X.w) X.A (call (.builtin "sorted") us) (EP X pins σ Q) X.xe s := by
    intro ds n a wt hs ev rs hn hc h
    subst ev
    rw [evs] at r
    obtain ⟨its, rv, hit, hz⟩ : ∃ its, Vals wt its ∧ (s.heap.IsTuple a its.toArray ∨ s.heap.IsList a its.toArray) ∧ wt.length ≤ sizeLine := by
      rcases hs with hs | hs
      · obtain ⟨its, rv, pl, hz⟩ := I.tuple hs
        exact ⟨its, rv, .inl pl, hz⟩
      · obtain ⟨its, rv, pl, hz⟩ := I.list hs
        exact ⟨its, rv, .inr pl.isList, hz⟩
    obtain ⟨hd, hcl, hdn⟩ := pds_dp ds wt n hn rs
    rw [pys_map] at hd hdn
    rw [Vals.ref1 r]
    have ha := alikeB_of hc.2.1 hn
    have hu := hr.u64
    have hlen : its.length = ds.length := by rw [← rv.length, rs.len]
    have er : PySem.W.EachIs (fun v b => ∃ as, Reads s.heap v (D.py b) as) its ds := by
      obtain ⟨as, ra⟩ := Dp.readsAll I _ _ _ hd rv
      exact PySem.W.readsAll_each D.py ra
    have hk : PySem.W.Sortable (ds.map D.py) := sortable_of (n := n) ha hc.2.2
    have hub : ∀ b, b ∈ ds → X.A.units + 2 + (D.py b).depth < cLine := fun b hb => by
      obtain ⟨k', h1, h2⟩ := pds_mem hn b hb
      have : (D.py b).depth = k' := by
        obtain ⟨i, hi⟩ := List.getElem?_of_mem hb
        obtain ⟨v', _, rv'⟩ := rs.get hi
        exact (pd_dp b v' k' h1 rv').2.2
      rw [this]
      have := hc.1
      omega
    have fin' : ∀ (out : List Value) (h' : Heap) (a : Addr) (ep : Nat), out.length = ds.length → PySem.W.EachIs (fun u d => ∃ y, DR X.K X.mg W d y ∧ RelV y u) out (ds.mergeSort (PySem.W.dataLe false D.py)) → s.heap.get? a = none → (∀ b u, s.heap.get? b = some u → h'.get? b = some u) → h'.get? a = some (PyProof.Rows.seqObj "list" out.toArray ep) → EP X pins σ Q (.ref a) { s with heap := h' } := by
      intro out h' a ep ho eo hp hk' he'
      have hHn : W.H a = none := by
        cases q : W.H a with
        | none => rfl
        | some u =>
          obtain ⟨o, e⟩ := live (I.hok a u q)
          rw [hp] at e
          cases e
      obtain ⟨vs', rs', rv'⟩ := of_each eo
      have hl2 : vs'.length ≤ sizeLine := by rw [rv'.length, ho, ← hlen, ← rv.length]; exact hz
      refine ⟨.ref _, upd W.H a (.lst vs'), I.laidN (t' := s.toks) (fun _ _ => hk' _ _) hp hHn ⟨hl2, out, ep, rv', he'⟩, rfl, ?_⟩
      have : ds.mergeSort (PySem.W.dataLe false D.py) = sortL ds := by rw [PySem.W.dataLe_eq]; rfl
      rw [this] at rs'
      exact new_lst S rs' h _ hHn
    have hz' : its.length ≤ sizeLine := by rw [← rv.length]; exact hz
    rcases hit with hl | hl
    · obtain ⟨o, ho, hc', ep, hd'⟩ := hl
      exact sorted_seq (enc := D.py) (.inr rfl) ho hc' hd' (each_of rs rv) er (fun d hd d' hd' => ha.1 d hd d' hd') hk hz' hub fin'
    · obtain ⟨o, ho, hc', ep, hd'⟩ := hl
      exact sorted_seq (enc := D.py) (.inl rfl) ho hc' hd' (each_of rs rv) er (fun d hd d' hd' => ha.1 d hd d' hd') hk hz' hub fin'
  split at h
  · rename_i ds hq
    split at h
    case h_2 => exact h.elim
    rename_i n hn
    split at h
    case isFalse => exact h.elim
    rename_i hc
    obtain ⟨a, wt, e, hs, rs'⟩ := lst_of S r1 hq
    exact key ds n a wt (.inr hs) e rs' hn hc h
  · split at h
    case h_2 => exact h.elim
    rename_i ds hq
    split at h
    case h_2 => exact h.elim
    rename_i n hn
    split at h
    case isFalse => exact h.elim
    rename_i hc
    have hq' : ∀ x, tupOf m x = some ds → seqOf m x = some ds := fun x hq => by
      unfold tupOf at hq
      unfold seqOf
      split at hq
      · rename_i e
        rw [e]
        exact hq
      · cases hq
    have hq' := hq' _ hq
    obtain ⟨a, wt, e, hs, rs'⟩ := seq_of S r1 hq'
    exact key ds n a wt hs e rs' hn hc h
end Dn
set_option Elab.async false
set_option linter.all false
set_option maxRecDepth 100000
set_option maxHeartbeats 2000000
namespace Dn
open PySem PySem.Spec PyProof.Rows L2
/-! ### x in y -/
def occC (z x : Cs) : Bool := !(Builtin.Str.occurrences (toS z) (toS x) 0 z.length 1).isEmpty
def dcF (d : D) : Option Bool := none
def inB (x y : D) (m : Mu) : Option Bool := match look m y with
  | .str z => match look m x with
    | .str [c] => some (decide (c ∈ z))
    | .str x => some (occC z x)
    | _ => none
  | .lst ds => match (look m x).pd, D.pds ds with
    | some a, some b => if a ≤ 50 ∧ b ≤ 50 then some (ds.any fun z => D.eq z (look m x)) else none
    | _, _ => none
  | .tup ds => match (look m x).pd, D.pds ds with
    | some a, some b => if a ≤ 50 ∧ b ≤ 50 then some (ds.any fun z => D.eq z (look m x)) else none
    | _, _ => none
  | .scr ns => match look m x with
    | .int i => some (decide (i ∈ ns))
    | _ => none
  | .dct ks ds => match dkey x with
    | some k => some (lkp ks ds k).isSome
    | none => none
  | .dctT ks ds => match dkeyT x with
    | some k => some (lkpT ks ds k).isSome
    | none => none
  | _ => none
def inD (x y : D) (m : Mu) : Rs D := match inB x y m with | some b => .ok (.bl b) m | none => .bad
def notInD (x y : D) (m : Mu) : Rs D := match inB x y m with | some b => .ok (.bl (!b)) m | none => .bad
/-- what an answer of x in y may be -/
def InK (K : PySem.W.Frag) (x y : V) (H : Hp) (b : Bool) : Prop :=
  (∃ c z, x = .str ⟨#[c]⟩ ∧ y = .str z ∧ b = decide (c ∈ z.cps.toList)) ∨ (∃ i z, x = .str i ∧ y = .str z ∧ b = !(Builtin.Str.occurrences z i 0 z.length 1).isEmpty) ∨
  (∃ d ds, Dp K H x d ∧ (Dp K H y (.list ds) ∨ Dp K H y (.tuple ds)) ∧ SeqAt.shaped d = true ∧ SeqAt.shaped (.list ds) = true ∧ b = ds.any fun z => PyData.eqv z d) ∨ (∃ a o, y = .ref a ∧ DGet H a x o ∧ b = o.isSome)
def rInK (K : PySem.W.Frag) : R2 := fun x y H Q => ∃ b, InK K x y H b ∧ Q (.bl b) H
def rNotInK (K : PySem.W.Frag) : R2 := fun x y H Q => ∃ b, InK K x y H b ∧ Q (.bl (!b)) H
theorem shaped_tl {ds : List PyData} : SeqAt.shaped (.tuple ds) = SeqAt.shaped (.list ds) := by rfl
theorem p_in {X : Cx} (hu : X.A.units + 65 < cLine) : OpR X (compareOp .In) (rInK X.K) := by
  intro pins s σ H x y v u Q I rx ry ⟨b, h, q⟩
  rcases h with ⟨c, z, rfl, rfl, rfl⟩ | ⟨i, z, rfl, rfl, rfl⟩ | ⟨d, ds, hd, he | he, sd, se, rfl⟩ | ⟨a, o, rfl, g, rfl⟩
  · exact op_in_sign pins s σ H _ _ v u Q I rx ry ⟨c, z, rfl, rfl, q⟩
  · exact op_in_str pins s σ H _ _ v u Q I rx ry ⟨i, z, rfl, rfl, q⟩
  · exact op_inD hu pins s σ H _ _ v u Q I rx ry ⟨d, ds, hd, he, sd, se, q⟩
  · obtain ⟨as, r1⟩ := Dp.reads I d x v hd rx
    obtain ⟨bs, r2⟩ := Dp.reads I (.tuple ds) y u he ry
    exact SeqAt.in_tuple_reads r2 r1 (SeqAt.canLay_of_shaped (d := .tuple ds) (shaped_tl.trans se)) (SeqAt.canLay_of_shaped sd) (room_in_shaped sd hu) ⟨.bl _, H, I, rfl, q⟩
  · obtain rfl : u = Value.ref a := ry
    exact d_in (by omega) I g rx fun s' I' => ⟨.bl o.isSome, H, I', rfl, q⟩
theorem p_notIn {X : Cx} (hu : X.A.units + 65 < cLine) : OpR X (compareOp .NotIn) (rNotInK X.K) := by
  intro pins s σ H x y v u Q I rx ry ⟨b, h, q⟩
  rcases h with ⟨c, z, rfl, rfl, rfl⟩ | ⟨i, z, rfl, rfl, rfl⟩ | ⟨d, ds, hd, he | he, sd, se, rfl⟩ | ⟨a, o, rfl, g, rfl⟩
  · exact op_notIn_sign pins s σ H _ _ v u Q I rx ry ⟨c, z, rfl, rfl, q⟩
  · exact op_notIn_str pins s σ H _ _ v u Q I rx ry ⟨i, z, rfl, rfl, by simpa using q⟩
  · exact op_notInD hu pins s σ H _ _ v u Q I rx ry ⟨d, ds, hd, he, sd, se, q⟩
  · obtain ⟨as, r1⟩ := Dp.reads I d x v hd rx
    obtain ⟨bs, r2⟩ := Dp.reads I (.tuple ds) y u he ry
    exact SeqAt.notIn_tuple_reads r2 r1 (SeqAt.canLay_of_shaped (d := .tuple ds) (shaped_tl.trans se)) (SeqAt.canLay_of_shaped sd) (room_in_shaped sd hu) ⟨.bl _, H, I, rfl, q⟩
  · obtain rfl : u = Value.ref a := ry
    exact d_notIn (by omega) I g rx fun s' I' => ⟨.bl (!o.isSome), H, I', rfl, q⟩
theorem any_py {x : D} {n k : Nat} (hx : x.pd = some k) : ∀ {ds : List D} {n : Nat}, D.pds ds = some n → ((ds.map D.py).any fun z => PyData.eqv z x.py) = ds.any fun z => D.eq z x
  | [], _, _ => rfl
  | d :: ds, n, h => by
    simp only [D.pds] at h
    split at h
    · rename_i a b ha hb
      rw [List.map_cons, List.any_cons, List.any_cons, any_py (n := n) hx hb, eqv_py d x a k ha hx]
    · cases h
theorem pds_ints : ∀ ns : List Int, D.pds (ns.map D.int) = some 0
  | [] => rfl
  | n :: ns => by simp only [List.map_cons, D.pds, D.pd, pds_ints ns]; rfl
theorem inK_of {K : PySem.W.Frag} {mg : Str → Option Value} {W : Wd} {m : Mu} {x y : D} {v u : V} {b : Bool} (S : Sim K mg W m) (rx : DR K mg W x v) (ry : DR K mg W y u) (h : inB x y m = some b) : InK K v u W.H b := by
  have dx := look_rd S rx
  have dy := look_rd S ry
  have data : ∀ (ds : List D) (vs : List V) (a : Addr) (k n : Nat), (look m x).pd = some k → D.pds ds = some n → k ≤ 50 → n ≤ 50 → u = .ref a → (SqL K W.H a vs ∨ SqT K W.H a vs) → DRs K mg W ds vs → InK K v u W.H (ds.any fun z => D.eq z (look m x)) := by
    intro ds vs a k n hk hn lk ln eu hs rs
    obtain ⟨h1, h2, h3⟩ := rd_dp hk dx
    obtain ⟨g1, g2, g3⟩ := pds_dp ds vs n hn rs
    rw [pys_map] at g1 g2 g3
    refine .inr (.inr (.inl ⟨(look m x).py, ds.map D.py, h1, ?_, shaped_of h2 h3 (by omega), ?_, (any_py (n := n) hk hn).symm⟩))
    · subst eu
      rcases hs with hs | hs
      · exact .inl (.lst hs g1)
      · exact .inr (.tup hs g1)
    · exact shaped_of (p := .list (ds.map D.py)) (n := n + 1) (by simpa [PyData.canLay0] using g2) (by simp [PyData.depth, g3]) (by omega)
  unfold inB at h
  split at h
  · rename_i z hz
    rw [hz] at dy
    simp only [RD, DR] at dy
    subst dy
    split at h
    · rename_i c hc
      rw [hc] at dx
      simp only [RD, DR] at dx
      subst dx
      cases h
      exact .inl ⟨c, toS z, rfl, rfl, by rw [toS_toList]⟩
    · rename_i x' _ hc
      rw [hc] at dx
      simp only [RD, DR] at dx
      subst dx
      cases h
      exact .inr (.inl ⟨toS x', toS z, rfl, rfl, by unfold occC; rw [toS_len]⟩)
    · cases h
  · rename_i ds hy
    rw [hy] at dy
    split at h
    case h_2 => cases h
    rename_i k n hk hn
    split at h
    case isFalse => cases h
    rename_i hl
    cases h
    obtain ⟨a, vs, rfl, ha, rs⟩ := dy
    exact data ds vs a k n hk hn hl.1 hl.2 rfl (.inl (.inl (.inl ha))) rs
  · rename_i ds hy
    rw [hy] at dy
    split at h
    case h_2 => cases h
    rename_i k n hk hn
    split at h
    case isFalse => cases h
    rename_i hl
    cases h
    simp only [RD, DR] at dy
    obtain ⟨a, vs, rfl, ha, rs⟩ := dy
    exact data ds vs a k n hk hn hl.1 hl.2 rfl (.inr (sqT_of ha)) rs
  · rename_i ns hy
    rw [hy] at dy
    split at h
    case h_2 => cases h
    rename_i i hi
    cases h
    simp only [RD, DR] at dy
    obtain ⟨a, rfl, ha⟩ := dy
    have := data (ns.map D.int) _ a 0 0 (by rw [hi]; rfl) (pds_ints ns) (by omega) (by omega) rfl (.inl (sqL_scr ha)) (DRs.ints ns)
    rw [hi] at this
    have e : ((ns.map D.int).any fun z => D.eq z (.int i)) = decide (i ∈ ns) := by
      rw [List.any_map]
      rw [Bool.eq_iff_iff, List.any_eq_true, decide_eq_true_eq]
      constructor
      · rintro ⟨j, hj, e⟩
        simp only [Function.comp, D.eq, beq_iff_eq] at e
        exact e ▸ hj
      · intro hj
        exact ⟨i, hj, by simp [D.eq]⟩
    rwa [e] at this
  · rename_i ks ds hy
    rw [hy] at dy
    obtain ⟨a, kvs, rfl, ha, hk, rs⟩ := dy
    split at h
    case h_2 => cases h
    rename_i k hkx
    cases h
    have := dkey_of rx hkx
    subst this
    refine .inr (.inr (.inr ⟨a, valV kvs k.k, rfl, .inl ⟨kvs, k.k, ha, rfl, rfl⟩, ?_⟩))
    cases hq : lkp ks ds k with
    | none => rw [lkp_none hk rs hq]; rfl
    | some d =>
      obtain ⟨v, hv, _⟩ := lkp_of hk rs hq
      rw [hv]
      rfl
  · rename_i ks ds hy
    rw [hy] at dy
    obtain ⟨a, kvs, rfl, ha, hk, rs⟩ := dy
    split at h
    case h_2 => cases h
    rename_i k hkx
    cases h
    obtain ⟨bb, eb, hb⟩ := dkeyT_of rx hkx
    refine .inr (.inr (.inr ⟨a, valV kvs (keyT k), rfl, .inr ⟨kvs, keyT k, bb, ha, eb, hb, rfl⟩, ?_⟩))
    cases hq : lkpT ks ds k with
    | none => rw [lkpT_none hk rs hq]; rfl
    | some d =>
      obtain ⟨v, hv, _⟩ := lkpT_of hk rs hq
      rw [hv]
      rfl
  · cases h
section
variable {K : PySem.W.Frag} {mg : Str → Option Value}
theorem o_in : Op2 K mg (rInK K) inD := by
  intro W m x y v u Q Wx S rx ry h
  unfold inD at h
  split at h
  · rename_i b hb
    exact ⟨b, inK_of S rx ry hb, fin S h (by simp only [DR])⟩
  · exact h.elim
theorem o_notIn : Op2 K mg (rNotInK K) notInD := by
  intro W m x y v u Q Wx S rx ry h
  unfold notInD at h
  split at h
  · rename_i b hb
    exact ⟨b, inK_of S rx ry hb, fin S h (by simp only [DR])⟩
  · exact h.elim
end
/-! ### methods of built-in types -/
abbrev MFn := D → List D → Mu → Rs D
def rM (K : PySem.W.Frag) (mg : Str → Option Value) (g : MFn) : V → List V → Hp → VK → Prop := fun x vs H Q => ∃ (W : Wd) (m : Mu) (d : D) (ds : List D) (Wy : Value → Option Addr → Hp → Prop), W.H = H ∧ Sim K mg W m ∧ DR K mg W d x ∧ DRs K mg W ds vs ∧ Post K mg (fun W => DR K mg W) Wy W Q (g d ds m)
def MB (X : Cx) (id : String) (g : MFn) : Prop := MtR X id (rM X.K X.mg g)
def tyD (T : String) (m : Mu) (d : D) : Bool := match look m d with
  | .str _ => T = "str"
  | .lst _ => T = "list"
  | .scr _ => T = "list"
  | _ => false
def bm2 (T : String) (g : MFn) (to : Dl → Mu → Rs D) (tr : Dl → Mu → Rs (List D)) : Dl → Mu → Rs D := fun δ m => (to δ m).bind fun x m => if tyD T m x = true then (tr δ m).bind fun ds m => g x ds m else .bad
theorem ty_at {K : PySem.W.Frag} {mg : Str → Option Value} {W : Wd} {m : Mu} {d : D} {v : V} {T : String} (S : Sim K mg W m) (r : DR K mg W d v) (h : tyD T m d = true) : tyV K T v W.H := by
  have rd := look_rd S r
  unfold tyD at h
  split at h
  · rename_i x hx
    rw [hx] at rd; simp only [RD, DR] at rd; subst rd
    have h' : T = "str" := by simpa using h
    exact h'
  · rename_i x hx
    rw [hx] at rd
    obtain ⟨a, vs, rfl, ha, rs⟩ := rd
    exact .inl ⟨of_decide_eq_true h, vs, .inl (.inl ha)⟩
  · rename_i x hx
    rw [hx] at rd; simp only [RD, DR] at rd
    obtain ⟨a, rfl, ha⟩ := rd
    exact .inl ⟨of_decide_eq_true h, _, sqL_scr ha⟩
  · cases h
section
variable {X : Cx} {Wx : WX} {o e : Expr} {es : List Expr} {name : Str} {apos cpos : Pos} {T id : String} {g : MFn} {to : Dl → Mu → Rs D} {tr : Dl → Mu → Rs (List D)}
theorem e2_bm (pa : PlainAttrs T) (slot : Slot T name id) (hty : typeOf (.builtin id) = pure (.type "method_descriptor")) (hm : MB X id g) (ho : E2 X Wx o to) (ha : A2 X Wx (e :: es) tr)
    (hbase : attributeBase o name X.env (eval o X.env) = eval o X.env := by rfl)
    (hfew : ((backTo cpos (starEach (e :: es) X.env)).all (fun x => !x.1) && (backToKw cpos (keywordEach [] X.env)).all (fun x => x.1.isSome)
      && decide ((e :: es).length + ([] : List Keyword).length + (if ([] : List Keyword).isEmpty then 0 else 1) < 30)) = true := by rfl)
    (hline : (apos.endLine == cpos.line) = true := by rfl) (hs : starEach (e :: es) X.env = (false, eval e X.env) :: starEach es X.env := by rfl) (hplain : (backTo cpos (starEach es X.env)).any (·.1) = false := by rfl) :
    E2 X Wx (.Call (.Attribute o name apos) (e :: es) [] cpos) (bm2 T g to tr) :=
  PE.wk (pe_bm pa slot hty hm ho ha hbase hfew hline hs hplain) fun σ H Q ⟨W, δ, m, e, S, N, h⟩ => ⟨W, δ, m, e, S, N, (Post.bind h).mono fun v H1 ⟨W1, m1, d, e1, x1, S1, r1, h1⟩ => by
    subst e1
    split at h1
    · rename_i ht
      exact ⟨ty_at S1 r1 ht, W1, δ, m1, rfl, S1, N.mono (x1.keep S), (Post.bind h1).mono fun vs H2 ⟨W2, m2, ds, e2, x2, S2, r2, h2⟩ => ⟨W2, m2, d, ds, _, e2, S2, r1.mono (x2.keep S1), r2, h2⟩⟩
    · exact h1.elim⟩
end
/-! append -/
def appendM : MFn := fun x ds m => match x, ds with
  | .ref r, [d] => match m[r]? with
    | some (.lst xs) => if xs.length < SZ then .ok .non (m.set r (.lst (xs ++ [d]))) else .bad
    | _ => .bad
  | _, _ => .bad
theorem mb_append {X : Cx} : MB X "list.append" appendM := by
  intro pins s σ H x xs v us Q I rx rxs ⟨W, m, d, ds, Wy, e, S, r, rs, h⟩
  subst e
  unfold appendM at h
  split at h
  case h_2 => exact h.elim
  rename_i rr d'
  split at h
  case h_2 => exact h.elim
  rename_i ys hm
  split at h
  case isFalse => exact h.elim
  rename_i hl
  simp only [DR] at r
  obtain ⟨a, rfl, ha⟩ := r
  obtain ⟨w, rfl, rw'⟩ := drs1 rs
  obtain ⟨o, ho, vs, rfl, rvs⟩ := S.cell rr a _ ha hm (by intro z; cases z)
  refine mt_append pins s σ W.H _ _ v us Q I rx rxs ⟨a, vs, w, rfl, rfl, ho, by rw [rvs.len, SZ_eq]; exact hl, ?_⟩
  have hlv : W.lv a := (S.lv rr a ha).mpr ⟨_, hm, by intro z; cases z⟩
  have S' := S.put (c := .lst (ys ++ [d'])) (o := .lst (vs ++ [w])) ha hm (by intro z; cases z) (by intro z; cases z) ⟨_, rfl, rvs.append (DRs.one rw')⟩
  exact h .non _ (Ext.put hlv) S' (by simp only [DR])
/-! join -/
def joinC (a : Cs) (ys : List Cs) : Cs := (List.intersperse a ys).flatten
theorem glue_foldl (a : Cs) : ∀ (ys : List Cs) (x : Cs), (ys.map toS).foldl (fun acc p => acc ++ (toS a).cps ++ p.cps) (toS x).cps = (toS (x ++ (ys.map fun y => a ++ y).flatten)).cps
  | [], x => by simp [toS]
  | y :: ys, x => by
    rw [List.map_cons, List.foldl_cons]
    have : (toS x).cps ++ (toS a).cps ++ (toS y).cps = (toS (x ++ a ++ y)).cps := by simp [toS]
    rw [this, glue_foldl a ys]
    simp [List.append_assoc]
theorem joinC_cons (a x : Cs) : ∀ ys : List Cs, joinC a (x :: ys) = x ++ (ys.map fun y => a ++ y).flatten
  | [] => by simp [joinC]
  | y :: ys => by
    unfold joinC
    rw [List.intersperse_cons₂, List.flatten_cons, List.flatten_cons]
    have := joinC_cons a y ys
    unfold joinC at this
    rw [this]
    simp
theorem join_toS (a : Cs) (ys : List Cs) : PySem.Txt.join (toS a) (ys.map toS) = toS (joinC a ys) := by
  cases ys with
  | nil => rfl
  | cons y ys =>
    unfold PySem.Txt.join
    rw [PySem.StrLaws.glued_eq_join, List.map_cons, ← PySem.StrLaws.glued_cons, joinC_cons]
    have := glue_foldl a ys y
    rw [this]
def joinM : MFn := fun x ds m => match x, ds with
  | .str a, [l] => match (seqOf m l).bind strsOf with
    | some ys => if (ys.map (·.length)).sum + ys.length * a.length ≤ SZ then .ok (.str (joinC a ys)) m else .bad
    | none => .bad
  | _, _ => .bad
theorem mb_join {X : Cx} : MB X "str.join" joinM := by
  intro pins s σ H x xs v us Q I rx rxs ⟨W, m, d, ds, Wy, e, S, r, rs, h⟩
  subst e
  unfold joinM at h
  split at h
  case h_2 => exact h.elim
  rename_i a l
  split at h
  case h_2 => exact h.elim
  rename_i ys hq
  split at h
  case isFalse => exact h.elim
  rename_i hl
  simp only [DR] at r
  subst r
  obtain ⟨w, rfl, rw'⟩ := drs1 rs
  obtain ⟨ds, h1, h2⟩ := Option.bind_eq_some_iff.mp hq
  obtain ⟨p, vs, rfl, hs, rs⟩ := seq_of S rw' h1
  rw [strsOf_inv h2] at rs
  rw [rs.of_strs] at hs
  refine mt_join pins s σ W.H _ _ v us Q I rx rxs ⟨toS a, p, ys.map toS, rfl, rfl, hs.symm, ?_, ?_⟩
  · have e1 : (ys.map toS).map (·.length) = ys.map (·.length) := by rw [List.map_map]; exact List.map_congr_left fun y _ => toS_len y
    rw [e1, List.length_map, toS_len]
    exact hl
  · exact fin S h (by simp only [DR]; rw [join_toS])
/-! split -/
def splitC (a b : Cs) : List Cs := (PySem.Txt.split (toS a) (toS b)).map fun x => x.cps.toList
def splitM : MFn := fun x ds m => match x, ds with
  | .str a, [.str b] => if b.length ≠ 0 ∧ a.length + 2 ≤ SZ then .ok (.lst ((splitC a b).map D.str)) m else .bad
  | _, _ => .bad
theorem map_cps (l : List Str) : (l.map fun x => x.cps.toList).map toS = l := by
  rw [List.map_map]
  have : (toS ∘ fun x : Str => x.cps.toList) = id := by
    funext x
    exact toS_cps x
  rw [this, List.map_id]
theorem mb_split {X : Cx} : MB X "str.split" splitM := by
  intro pins s σ H x xs v us Q I rx rxs ⟨W, m, d, ds, Wy, e, S, r, rs, h⟩
  subst e
  unfold splitM at h
  split at h
  case h_2 => exact h.elim
  rename_i a b
  split at h
  case isFalse => exact h.elim
  rename_i hl
  simp only [DR] at r
  subst r
  obtain ⟨w, rfl, rw'⟩ := drs1 rs
  simp only [DR] at rw'
  subst rw'
  refine mt_split pins s σ W.H _ _ v us Q I rx rxs ⟨toS a, toS b, rfl, rfl, by rw [toS_len]; exact beq_eq_false_iff_ne.mpr hl.1, by rw [toS_len, SZ_eq]; exact hl.2, ?_⟩
  have rr : DRs X.K X.mg W ((splitC a b).map D.str) ((PySem.Txt.split (toS a) (toS b)).map V.str) := by
    have := DRs.strs (K := X.K) (mg := X.mg) (W := W) (splitC a b)
    have e : ((splitC a b).map fun x => V.str (toS x)) = (PySem.Txt.split (toS a) (toS b)).map V.str := by
      unfold splitC
      rw [List.map_map]
      refine List.map_congr_left fun y _ => ?_
      show V.str (toS y.cps.toList) = V.str y
      rw [toS_cps]
    rwa [e] at this
  exact new_lst S rr h
/-! index of a text in a text -/
def indexC (a b : Cs) : Option Nat := (Builtin.Str.occurrences (toS a) (toS b) 0 a.length 1).head?
def sindexM : MFn := fun x ds m => match look m x, ds with
  | .str a, [.str b] => match indexC a b with | some i => .ok (.int (i : Nat)) m | none => .bad
  | _, _ => .bad
theorem mb_sindex {X : Cx} : MB X "str.index" sindexM := by
  intro pins s σ H x xs v us Q I rx rxs ⟨W, m, d, ds, Wy, e, S, r, rs, h⟩
  subst e
  unfold sindexM at h
  split at h
  case h_2 => exact h.elim
  rename_i a b ha
  split at h
  case h_2 => exact h.elim
  rename_i i hi
  have rd := look_rd S r
  rw [ha] at rd
  simp only [RD, DR] at rd
  subst rd
  obtain ⟨w, rfl, rw'⟩ := drs1 rs
  simp only [DR] at rw'
  subst rw'
  obtain ⟨rest, hr⟩ := List.head?_eq_some_iff.mp hi
  exact mt_sindex pins s σ W.H _ _ v us Q I rx rxs ⟨toS a, toS b, i, rest, rfl, rfl, by rw [toS_len]; exact hr, fin S h (by simp only [DR])⟩
end Dn
set_option Elab.async false
set_option linter.all false
set_option maxRecDepth 100000
set_option maxHeartbeats 2000000
namespace Dn
open PySem PySem.Spec PyProof.Rows L2
section
variable {X : Cx} {Wx : WX} {a o e f : Expr} {ta to te tf : Dl → Mu → Rs D} {tr : Dl → Mu → Rs (List D)} {pos apos cpos : Pos}
/-! -e -/
def negD (x : D) (m : Mu) : Rs D := match x with | .int i => .ok (.int (-i)) m | _ => .bad
theorem e2_neg (ha : E2 X Wx a ta) : E2 X Wx (.UnaryOp .USub a pos) (un2 negD ta) := PE.wk (pe_un un_neg ha) fun σ H Q ⟨W, δ, m, e, S, N, h⟩ => ⟨W, δ, m, e, S, N, (Post.bind h).mono fun v H1 ⟨W1, m1, x, e1, x1, S1, r1, h1⟩ => by
    subst e1
    unfold negD at h1
    split at h1
    · rename_i i
      simp only [DR] at r1
      exact ⟨i, r1, fin S1 h1 (by simp only [DR])⟩
    · exact h1.elim⟩
/-! {} -/
def newDict : Dl → Mu → Rs D := fun _ m => .ok (.ref m.length) (m ++ [.dct [] []])
theorem e2_newDict : E2 X Wx (.Dict [] [] pos) newDict := PE.wk pe_dnewK fun σ H Q ⟨W, δ, m, e, S, N, h⟩ => by
  subst e
  exact new_cell (c := .dct [] []) S (by intro z; cases z) ⟨[], rfl, rfl, DRs.nil⟩ h
/-! d.get(k, x) -/
def get2D (x k d : D) (m : Mu) : Rs D := match look m x with
  | .dct ks ds => match dkey k with
    | some k => match lkp ks ds k with
      | some v => .ok v m
      | none => .ok d m
    | none => .bad
  | .dctT ks ds => match dkeyT k with
    | some k => match lkpT ks ds k with
      | some v => .ok v m
      | none => .ok d m
    | none => .bad
  | _ => .bad
def isDct (m : Mu) (x : D) : Bool := match look m x with | .dct _ _ => true | .dctT _ _ => true | _ => false
def get2 (to te tf : Dl → Mu → Rs D) : Dl → Mu → Rs D := fun δ m => (to δ m).bind fun x m => if isDct m x = true then (te δ m).bind fun k m => (tf δ m).bind fun d m => get2D x k d m else .bad
theorem e2_get2 (hu : X.A.units + 1 < cLine) (ho : E2 X Wx o to) (he : E2 X Wx e te) (hf : E2 X Wx f tf)
    (h1 : attributeBase o "get" X.env (eval o X.env) = eval o X.env := by rfl)
    (h2 : ((backTo cpos (starEach [e, f] X.env)).all (fun x => !x.1) && (backToKw cpos (keywordEach [] X.env)).all (fun x => x.1.isSome) && decide (([e, f] : List Expr).length + ([] : List Keyword).length + (if ([] : List Keyword).isEmpty then 0 else 1) < 30)) = true := by rfl)
    (h3 : (apos.endLine == cpos.line) = true := by rfl) (h4 : backTo cpos (starEach [e, f] X.env) = [(false, eval e X.env), (false, eval f X.env)] := by rfl) :
    E2 X Wx (.Call (.Attribute o "get" apos) [e, f] [] cpos) (get2 to te tf) :=
  PE.wk (pe_dget2 hu ho he hf ⟨h1, h2, h3, h4⟩) fun σ H Q ⟨W, δ, m, e, S, N, h⟩ => ⟨W, δ, m, e, S, N, (Post.bind h).mono fun v H1 ⟨W1, m1, x, e1, x1, S1, r1, h1⟩ => by
    subst e1
    split at h1
    case isFalse => exact h1.elim
    rename_i hd
    have rd := look_rd S1 r1
    unfold isDct at hd
    have hIsD : ∃ a, v = .ref a ∧ IsD W1.H a := by
      split at hd
      · rename_i ks ds hl
        rw [hl] at rd
        obtain ⟨a, kvs, rfl, ha, hk, rs⟩ := rd
        exact ⟨a, rfl, .inl ⟨kvs, ha⟩⟩
      · rename_i ks ds hl
        rw [hl] at rd
        obtain ⟨a, kvs, rfl, ha, hk, rs⟩ := rd
        exact ⟨a, rfl, .inr ⟨kvs, ha⟩⟩
      · cases hd
    obtain ⟨a, rfl, hIsD⟩ := hIsD
    refine ⟨a, rfl, hIsD, W1, δ, m1, rfl, S1, N.mono (x1.keep S), (Post.bind h1).mono fun y H2 ⟨W2, m2, k, e2, x2, S2, r2, h2⟩ => ⟨W2, δ, m2, e2, S2, (N.mono (x1.keep S)).mono (x2.keep S1), (Post.bind h2).mono fun z H3 ⟨W3, m3, d, e3, x3, S3, r3, h3⟩ => ?_⟩⟩
    subst e3
    have r1' := (r1.mono (x2.keep S1)).mono (x3.keep S2)
    have rd3 := look_rd S3 r1'
    unfold get2D at h3
    split at h3
    · rename_i ks3 ds3 hl3
      rw [hl3] at rd3
      obtain ⟨a3, kvs3, ea, ha3, hk3, rs3⟩ := rd3
      cases ea
      split at h3
      case h_2 => exact h3.elim
      rename_i k' hk'
      have := dkey_of (r2.mono (x3.keep S2)) hk'
      subst this
      refine ⟨valV kvs3 k'.k, .inl ⟨kvs3, k'.k, ha3, rfl, rfl⟩, ?_⟩
      split at h3
      · rename_i v hv
        obtain ⟨v', hv', rv⟩ := lkp_of hk3 rs3 hv
        rw [hv']
        exact fin S3 h3 rv
      · rename_i hv
        rw [lkp_none hk3 rs3 hv]
        exact fin S3 h3 r3
    · rename_i ks3 ds3 hl3
      rw [hl3] at rd3
      obtain ⟨a3, kvs3, ea, ha3, hk3, rs3⟩ := rd3
      cases ea
      split at h3
      case h_2 => exact h3.elim
      rename_i k' hk'
      obtain ⟨b, eb, hb⟩ := dkeyT_of (r2.mono (x3.keep S2)) hk'
      refine ⟨valV kvs3 (keyT k'), .inr ⟨kvs3, keyT k', b, ha3, eb, hb, rfl⟩, ?_⟩
      split at h3
      · rename_i v hv
        obtain ⟨v', hv', rv⟩ := lkpT_of hk3 rs3 hv
        rw [hv']
        exact fin S3 h3 rv
      · rename_i hv
        rw [lkpT_none hk3 rs3 hv]
        exact fin S3 h3 r3
    · exact h3.elim⟩
end
/-! sorted(d) -/
def keysS : List DKey → Option (List Cs)
  | [] => some []
  | .s x :: ks => (keysS ks).map (x :: ·)
  | .i _ :: _ => none
theorem keysS_inv : ∀ {ks : List DKey} {xs : List Cs}, keysS ks = some xs → ks = xs.map DKey.s
  | [], xs, h => by simp [keysS] at h; subst h; rfl
  | .s x :: ks, xs, h => by
    simp only [keysS, Option.map_eq_some_iff] at h
    obtain ⟨l, hl, rfl⟩ := h
    rw [keysS_inv hl]; rfl
  | .i _ :: _, _, h => by simp [keysS] at h
def sortC (xs : List Cs) : List Cs := xs.mergeSort fun a b => !ltC b a
def sorted2 : BFn := fun ds m => match ds with
  | [x] => match look m x with
    | .dct ks _ => match keysS ks with
      | some xs => if xs.length < 64 then .ok (.lst ((sortC xs).map D.str)) m else .bad
      | none => .bad
    | _ => sortedF [x] m
  | _ => .bad
theorem rising_pw : ∀ {l : List Str} {x : Str}, risingS x l = true → (∀ y ∈ l, x.cps.toList ≤ y.cps.toList) ∧ l.Pairwise fun a b => a.cps.toList ≤ b.cps.toList
  | [], x, _ => ⟨fun _ h => by simp at h, List.Pairwise.nil⟩
  | y :: l, x, h => by
    simp only [risingS, Bool.and_eq_true, Bool.not_eq_true'] at h
    rw [ltCps_eq] at h
    obtain ⟨h1, h2⟩ := h
    obtain ⟨h3, h4⟩ := rising_pw h2
    have hx : x.cps.toList ≤ y.cps.toList := of_decide_eq_false h1
    refine ⟨fun z hz => ?_, List.Pairwise.cons (fun z hz => h3 z hz) h4⟩
    rcases List.mem_cons.mp hz with rfl | hz
    · exact hx
    · exact List.le_trans hx (h3 z hz)
theorem sortedS_pw {l : List Str} (h : sortedS l = true) : l.Pairwise fun a b => a.cps.toList ≤ b.cps.toList := by
  cases l with
  | nil => exact List.Pairwise.nil
  | cons x l =>
    obtain ⟨h1, h2⟩ := rising_pw (x := x) (l := l) h
    exact List.Pairwise.cons h1 h2
theorem leC_iff (a b : Cs) : (!ltC b a) = true ↔ a ≤ b := by
  unfold ltC
  rw [Bool.not_eq_true', decide_eq_false_iff_not]
  exact Iff.rfl
theorem sortC_pw (xs : List Cs) : (sortC xs).Pairwise fun a b => a ≤ b := by
  have := List.pairwise_mergeSort (le := fun a b : Cs => !ltC b a) (fun a b c h1 h2 => (leC_iff a c).mpr (List.le_trans ((leC_iff a b).mp h1) ((leC_iff b c).mp h2)))
    (fun a b => by
      rw [Bool.or_eq_true, leC_iff, leC_iff]
      exact List.le_total a b) xs
  exact this.imp fun h => (leC_iff _ _).mp h
theorem sorted_uniq {xs : List Cs} {ys : List Str} (hp : ys.Perm (xs.map toS)) (hs : sortedS ys = true) : ys = (sortC xs).map toS := by
  refine List.Perm.eq_of_pairwise (le := fun a b : Str => a.cps.toList ≤ b.cps.toList) (fun a b _ _ h1 h2 => ?_) (sortedS_pw hs) ?_ (hp.trans ((List.mergeSort_perm xs _).symm.map toS))
  · have := List.le_antisymm h1 h2
    rw [← toS_cps a, ← toS_cps b, this]
  · rw [List.pairwise_map]
    exact (sortC_pw xs).imp fun h => by simpa only [toS_toList] using h
theorem cb_sorted2 {X : Cx} {k : Nat} (hr : Rm k X.A) (hc : X.calm = true) : CB X (.builtin "sorted") sorted2 := by
  intro pins s σ H vs us Q I r ⟨W, m, ds, Wy, e, S, rs, h⟩
  subst e
  unfold sorted2 at h
  split at h
  case h_2 => exact h.elim
  rename_i x
  split at h
  case h_2 => exact cb_sorted hr pins s σ W.H vs us Q I r ⟨W, m, _, Wy, rfl, S, rs, h⟩
  rename_i ks ds hl
  split at h
  case h_2 => exact h.elim
  rename_i xs hks
  split at h
  case isFalse => exact h.elim
  rename_i h64
  obtain ⟨v, rfl, r1⟩ := drs1 rs
  have rd := look_rd S r1
  rw [hl] at rd
  obtain ⟨a, kvs, rfl, ha, hk, rs⟩ := rd
  have hk2 : kvs.map (·.1) = (xs.map toS).map Sum.inr := by
    rw [hk, keysS_inv hks, List.map_map, List.map_map]
    rfl
  refine call_sortedD hc pins s σ W.H _ us Q I r ⟨a, kvs, xs.map toS, rfl, ha, hk2, by rw [List.length_map]; exact h64, fun ys p hp hs hn => ?_⟩
  rw [sorted_uniq hp hs]
  have rr := DRs.strs (K := X.K) (mg := X.mg) (W := W) (sortC xs)
  have e : ((sortC xs).map fun x => V.str (toS x)) = ((sortC xs).map toS).map V.str := by rw [List.map_map]; rfl
  rw [e] at rr
  exact new_lst S rr h p hn
/-! ### dicts that the top has written -/
structure KEnt (w : World) (e : DictEntry) (k : Key) : Prop where
  is : keyIs k e.key = true
  hash : e.hash = keyH w k
/-- at a: a written dict with these keys and values -/
def KDic (K : PySem.W.Frag) (w : World) (a : Addr) (ks : List DKey) (ds : List D) : Prop :=
  ∃ es n, K.lookup a = some ⟨.type "dict", none, .dict es n, #[]⟩ ∧ (a == sysModules) = false ∧ Paired (fun (e : DictEntry) (k : DKey) => KEnt w e k.k) es.toList ks ∧ (ks.map DKey.k).Nodup ∧
    ∀ (mg : Str → Option Value) (W : Wd), ∃ vs, DRs K mg W ds vs ∧ Vals vs (es.toList.map (·.val))
theorem pairs_zip {P : Program} {w : World} : ∀ {es : List DictEntry} {ks : List DKey}, Paired (fun (e : DictEntry) (k : DKey) => KEnt w e k.k) es ks → Pairs (mixKind P w) es ((ks.map DKey.k).zip (es.map (·.val)))
  | _, _, .nil => .nil
  | _, _, .cons h t => .cons h.is rfl (pairs_zip (P := P) t)
theorem kv_zip : ∀ {ks : List Key} {vs : List V} {us : List Value}, Vals vs us → KV (ks.zip vs) (ks.zip us)
  | [], _, _, _ => by simp only [List.zip_nil_left]; exact .nil
  | k :: ks, _, _, .nil => by simp only [List.zip_nil_right]; exact .nil
  | k :: ks, _, _, .cons r t => .cons ⟨rfl, r⟩ (kv_zip (ks := ks) t)
theorem paired_mem {α β : Type} {R : α → β → Prop} : ∀ {xs : List α} {ys : List β}, Paired R xs ys → ∀ x ∈ xs, ∃ y, R x y
  | _, _, .nil, _, h => by simp at h
  | _, _, .cons h t, x, hx => by
    rcases List.mem_cons.mp hx with rfl | hx
    · exact ⟨_, h⟩
    · exact paired_mem t x hx
theorem KDic.at {P : Program} {w : World} {K : PySem.W.Frag} {a : Addr} {ks : List DKey} {ds : List D} {h : Heap} (C : KDic K w a ks ds) (X : K.In h) (mg : Str → Option Value) (W : Wd) :
    (a == sysModules) = false ∧ ∃ (kvs : List (Key × V)) (vs : List (Key × Value)), kvs.map (·.1) = ks.map DKey.k ∧ DRs K mg W ds (kvs.map (·.2)) ∧ KV kvs vs ∧ h.DictOf (mixKind P w) a vs := by
  obtain ⟨es, n, lk, hs, he, nd, hv⟩ := C
  obtain ⟨us, r, rv⟩ := hv mg W
  have hl : es.toList.length = ks.length := paired_len he
  have hl2 : us.length = ks.length := by rw [rv.length, List.length_map, hl]
  have e1 : ((ks.map DKey.k).zip us).map (·.1) = ks.map DKey.k := List.map_fst_zip (by rw [List.length_map]; omega)
  refine ⟨hs, (ks.map DKey.k).zip us, (ks.map DKey.k).zip (es.toList.map (·.val)), e1, ?_, kv_zip rv, _, es, n, X _ _ lk, ⟨rfl, rfl, rfl⟩, rfl, ?_, pairs_zip he, ?_⟩
  · have e2 : ((ks.map DKey.k).zip us).map (·.2) = us := List.map_snd_zip (by rw [List.length_map]; omega)
    rw [e2]
    exact r
  · intro e hm
    obtain ⟨k, hk⟩ := paired_mem he e (by simpa using hm)
    exact ⟨k.k, hk.is, hk.hash⟩
  · have e3 : ((ks.map DKey.k).zip (es.toList.map (·.val))).map (·.1) = ks.map DKey.k := List.map_fst_zip (by rw [List.length_map, List.length_map]; omega)
    rw [e3]
    exact nd
section
variable {X : Cx} {Wx : WX} {a : Addr} {ks : List DKey} {ds : List D} {i : Expr} {x : Str} {p pos : Pos} {ti : Dl → Mu → Rs D}
def kgetD (ks : List DKey) (ds : List D) (i : D) (m : Mu) : Rs D := match dkey i with
  | some k => match lkp ks ds k with | some d => .ok d m | none => .bad
  | none => .bad
def kinD (ks : List DKey) (ds : List D) (i : D) (m : Mu) : Rs D := match dkey i with
  | some k => .ok (.bl (lkp ks ds k).isSome) m
  | none => .bad
def rKix (K : PySem.W.Frag) (mg : Str → Option Value) (a : Addr) (ks : List DKey) (ds : List D) : R2 := fun x y H Q => ∃ W m i Wy, W.H = H ∧ Sim K mg W m ∧ x = .ref a ∧ DR K mg W i y ∧ Post K mg (fun W => DR K mg W) Wy W Q (kgetD ks ds i m)
theorem ix_kd (C : KDic X.K X.w a ks ds) : IxR X (rKix X.K X.mg a ks ds) := by
  intro value slice pins s σ H x y v u Q I rx ry ⟨W, m, i, Wy, e, S, ex, ri, h⟩ hs
  subst e ex
  obtain rfl : v = Value.ref a := rx
  unfold kgetD at h
  split at h
  case h_2 => exact h.elim
  rename_i k hk
  split at h
  case h_2 => exact h.elim
  rename_i d hd
  have := dkey_of ri hk
  subst this
  obtain ⟨_, kvs, vs, h1, h2, h3, h4⟩ := C.at (P := X.prog) I.kIn X.mg W
  obtain ⟨z, hz, rz⟩ := lkp_of h1 h2 hd
  obtain ⟨w', hw, rw'⟩ := RelO.some_of (v := z) (o := valueAt vs k.k) (by rw [← hz]; exact h3.val k.k)
  exact tail_any h4.typeIs PySem.F.slot_dict_getitem.lookup (wpAny_getItem_of (kV_is ry) h4.mapOf hw ⟨z, W.H, I.tok _, rw', fin S h rz⟩) hs
theorem e2_kget (C : KDic X.K X.w a ks ds) (hm : X.mg x = some (.ref a)) (hi : E2 X Wx i ti) (hg : Gl X x := by rfl) (hd : (x == ("__debug__" : Str)) = false := by decide) (hs : PlainIx i := by intro _ _; rfl) : E2 X Wx (.Subscript (.Name x p) i pos) (un2 (kgetD ks ds) ti) :=
  PE.wk (pe_ix (ix_kd C) (pe_glob (v := .ref a) hg hm rfl hd) hi hs) fun σ H Q ⟨W, δ, m, e, S, N, h⟩ =>
    ⟨W, δ, m, e, S, N, (Post.bind h).mono fun v H1 ⟨W1, m1, d, e1, x1, S1, r1, h1⟩ => ⟨W1, m1, d, _, e1, S1, rfl, r1, h1⟩⟩
def rKin (K : PySem.W.Frag) (mg : Str → Option Value) (a : Addr) (ks : List DKey) (ds : List D) : R2 := fun y x H Q => ∃ W m i Wy, W.H = H ∧ Sim K mg W m ∧ x = .ref a ∧ DR K mg W i y ∧ Post K mg (fun W => DR K mg W) Wy W Q (kinD ks ds i m)
theorem p_kin (C : KDic X.K X.w a ks ds) : OpR X (compareOp .In) (rKin X.K X.mg a ks ds) := by
  intro pins s σ H y x u v Q I ry rx ⟨W, m, i, Wy, e, S, ex, ri, h⟩
  subst e ex
  obtain rfl : v = Value.ref a := rx
  unfold kinD at h
  split at h
  case h_2 => exact h.elim
  rename_i k hk
  have := dkey_of ri hk
  subst this
  obtain ⟨hd, kvs, vs, h1, h2, h3, h4⟩ := C.at (P := X.prog) I.kIn X.mg W
  refine wpAny_in_of (kV_is ry) hd h4.mapOf ?_
  rw [← (h3.val k.k).isSome_eq]
  refine ⟨.bl _, W.H, I.tok _, rfl, ?_⟩
  cases hq : lkp ks ds k with
  | none => rw [lkp_none h1 h2 hq]; rw [hq] at h; exact fin S h (by simp only [DR]; rfl)
  | some d =>
    obtain ⟨z, hz, rz⟩ := lkp_of h1 h2 hq
    rw [hz]; rw [hq] at h; exact fin S h (by simp only [DR]; rfl)
theorem e2_kin (C : KDic X.K X.w a ks ds) (hm : X.mg x = some (.ref a)) (hi : E2 X Wx i ti) (hg : Gl X x := by rfl) (hd : (x == ("__debug__" : Str)) = false := by decide) : E2 X Wx (.Compare i [.In] [.Name x p] pos) (un2 (kinD ks ds) ti) :=
  PE.wk (pe_cmpR (p_kin C) hi (pe_glob (v := .ref a) hg hm rfl hd) (by rfl)) fun σ H Q ⟨W, δ, m, e, S, N, h⟩ =>
    ⟨W, δ, m, e, S, N, (Post.bind h).mono fun v H1 ⟨W1, m1, d, e1, x1, S1, r1, h1⟩ => ⟨W1, m1, d, _, e1, S1, rfl, r1, h1⟩⟩
theorem c2_kin (C : KDic X.K X.w a ks ds) (hm : X.mg x = some (.ref a)) (hi : E2 X Wx i ti) (hg : Gl X x := by rfl) (hd : (x == ("__debug__" : Str)) = false := by decide) : C2 X Wx (.Compare i [.In] [.Name x p] pos) (bool2 (un2 (kinD ks ds) ti)) :=
  PT.wk (pt_cmpR (p_kin C) hi (pe_glob (v := .ref a) hg hm rfl hd) (by rfl)) fun σ H Q ⟨W, δ, m, e, S, N, h⟩ => by
    have h' := Post.bind (R := fun W => DR X.K X.mg W) (r := un2 (kinD ks ds) ti δ m) (k := boolD) h
    refine ⟨W, δ, m, e, S, N, (Post.bind h').mono fun v H1 ⟨W1, m1, d, e1, x1, S1, r1, h1⟩ => ⟨W1, m1, d, _, e1, S1, rfl, r1, h1.mono fun v H2 ⟨W2, m2, y, e2, x2, S2, r2, h2⟩ => ?_⟩⟩
    subst e2
    exact bool_post S2 r2 h2
end
end Dn
set_option Elab.async false
set_option linter.all false
set_option maxRecDepth 100000
set_option maxHeartbeats 2000000
namespace Dn
open PySem PySem.Spec PyProof.Rows L2
/-! ### defs under their names -/
/-- the module has at x a def that F mirrors -/
structure FnOK (P : Program) (w : World) (K : PySem.W.Frag) (mg : Str → Option Value) (base : Heap) (k : Nat) (x qual : Str) (st : Stmt) (ps : List Str) (F : FnD) : Prop where
  ex : ∃ f fd, mg x = some (.ref f) ∧ PySem.W.keepIn K (.ref f) = true ∧ Fun K x qual st f fd ∧ Binds K fd ps [] ∧ FD P w K mg base k f fd ps F
theorem FnOK.mono {P : Program} {w : World} {K : PySem.W.Frag} {mg : Str → Option Value} {base : Heap} {j k : Nat} {x qual : Str} {st : Stmt} {ps : List Str} {F : FnD} (h : FnOK P w K mg base j x qual st ps F) (hk : j ≤ k) : FnOK P w K mg base k x qual st ps F := by
  obtain ⟨f, fd, h1, h2, h3, h4, h5⟩ := h.ex
  exact ⟨f, fd, h1, h2, h3, h4, h5.mono hk⟩
theorem Fun.bindK {K : PySem.W.Frag} {x qual : Str} {st : Stmt} {f : Addr} {fd : FuncData} {ps ks : List Str} {n : Nat} {perm : List Nat} (F : Fun K x qual st f fd)
    (h : ∀ (kV doc pm : Value) (an : Option Addr) (cdv ct : Value) (us ws : List Value), us.length = n → ws.length = ks.length → bindArgs (PySem.W.fnOf x qual (defArgs st) (defBody st) (defScope st) .none kV doc pm an cdv ct) ⟨us, ks.zip ws⟩ = pure (ps.zip (pick perm (us ++ ws)))) : BindK K fd ps ks n perm := by
  obtain ⟨oc, od, kV, doc, pm, an, cdv, ct, osl, rfl, lk, hcd⟩ := F.ex
  exact .of (h kV doc pm an cdv ct)
abbrev BK (x qual : Str) (st : Stmt) (ps ks : List Str) (n : Nat) (perm : List Nat) : Prop := ∀ (kV doc pm : Value) (an : Option Addr) (cdv ct : Value) (us ws : List Value), us.length = n → ws.length = ks.length →
  bindArgs (PySem.W.fnOf x qual (defArgs st) (defBody st) (defScope st) .none kV doc pm an cdv ct) ⟨us, ks.zip ws⟩ = pure (ps.zip (pick perm (us ++ ws)))
section
variable {X : Cx} {Wx : WX} {k j n : Nat} {x qual : Str} {st : Stmt} {ps ks : List Str} {perm : List Nat} {F : FnD} {p pos : Pos} {e : Expr} {es : List Expr} {kws : List Keyword} {tr tk : Dl → Mu → Rs (List D)}
theorem c_call (h : FnOK X.prog X.w X.K X.mg X.base j x qual st ps F) (hr : Rm k X.A) (hk : j ≤ k) (tk : Takes X Wx) (ha : A2 X Wx (e :: es) tr)
    (hg : Gl X x := by rfl) (hdb : (x == ("__debug__" : Str)) = false := by decide) (he : starEach (e :: es) X.env = (false, eval e X.env) :: starEach es X.env := by rfl) (hpl : (backTo pos (starEach es X.env)).any (·.1) = false := by rfl) :
    E2 X Wx (.Call (.Name x p) (e :: es) [] pos) (on2 F tr) := by
  obtain ⟨f, fd, h1, h2, h3, h4, h5⟩ := h.ex
  exact e2_call (h5.mono hk) hr tk h1 h2 h4 ha hg hdb he hpl
theorem c_call0 (h : FnOK X.prog X.w X.K X.mg X.base j x qual st ps F) (hr : Rm k X.A) (hk : j ≤ k) (tk : Takes X Wx)
    (hg : Gl X x := by rfl) (hdb : (x == ("__debug__" : Str)) = false := by decide) : E2 X Wx (.Call (.Name x p) [] [] pos) (on2 F nil2) := by
  obtain ⟨f, fd, h1, h2, h3, h4, h5⟩ := h.ex
  exact e2_call0 (h5.mono hk) hr tk h1 h2 h4 hg hdb
theorem c_callK {kn : Nat} (h : FnOK X.prog X.w X.K X.mg X.base j x qual st ps F) (hr : Rm k X.A) (hk : j ≤ k) (tkk : Takes X Wx) (hb : BK x qual st ps ks n perm) (hl : ks.length = kn) (ha : A2 X Wx (e :: es) tr) (hkw : K2 X Wx kws tk)
    (hg : Gl X x := by rfl) (hdb : (x == ("__debug__" : Str)) = false := by decide) (hall : (backToKw pos (keywordEach kws X.env)).all (·.1.isSome) = true := by rfl) (hks : (backToKw pos (keywordEach kws X.env)).filterMap (·.1) = ks := by rfl)
    (he : starEach (e :: es) X.env = (false, eval e X.env) :: starEach es X.env := by rfl) (hpl : ((backTo pos (starEach (e :: es) X.env)).any (·.1) || (backToKw pos (keywordEach kws X.env)).any (·.1.isNone)) = false := by rfl) :
    E2 X Wx (.Call (.Name x p) (e :: es) kws pos) (call2K F n kn perm tr tk) := by
  subst hl
  obtain ⟨f, fd, h1, h2, h3, h4, h5⟩ := h.ex
  exact e2_callK (h5.mono hk) hr tkk h1 h2 (Fun.bindK h3 hb) ha hkw hg hdb hall hks he hpl
theorem c_callK0 {kn : Nat} (h : FnOK X.prog X.w X.K X.mg X.base j x qual st ps F) (hr : Rm k X.A) (hk : j ≤ k) (tkk : Takes X Wx) (hb : BK x qual st ps ks 0 perm) (hl : ks.length = kn) (hkw : K2 X Wx kws tk)
    (hg : Gl X x := by rfl) (hdb : (x == ("__debug__" : Str)) = false := by decide) (hall : (backToKw pos (keywordEach kws X.env)).all (·.1.isSome) = true := by rfl) (hks : (backToKw pos (keywordEach kws X.env)).filterMap (·.1) = ks := by rfl)
    (hpl : ((backTo pos (starEach [] X.env)).any (·.1) || (backToKw pos (keywordEach kws X.env)).any (·.1.isNone)) = false := by rfl) :
    E2 X Wx (.Call (.Name x p) [] kws pos) (call2K F 0 kn perm nil2 tk) := by
  subst hl
  obtain ⟨f, fd, h1, h2, h3, h4, h5⟩ := h.ex
  exact e2_callK0 (h5.mono hk) hr tkk h1 h2 (Fun.bindK h3 hb) hkw hg hdb hall hks hpl
theorem e2_gintE {i : Int} (hm : ∃ t, X.mg x = some (.int i t)) (hg : Gl X x := by rfl) (hd : (x == ("__debug__" : Str)) = false := by decide) : E2 X Wx (.Name x pos) (con2 (.int i)) := by
  obtain ⟨t, h⟩ := hm
  exact e2_gint h hg hd
theorem e2_gstrE (s : String) {z : Str} (hm : ∃ t, X.mg x = some (.str z t)) (hz : z = nm s := by rfl) (hg : Gl X x := by rfl) (hd : (x == ("__debug__" : Str)) = false := by decide) : E2 X Wx (.Name x pos) (con2 (.str (ofS s))) := by
  obtain ⟨t, h⟩ := hm
  exact e2_gstr h (hz.trans (toS_ofS s).symm) hg hd
theorem e2_gloE (s : String) (hm : ∃ a, X.mg x = some (.ref a)) (hx : x = nm s := by rfl) (hg : Gl X x := by rfl) (hd : (x == ("__debug__" : Str)) = false := by decide) : E2 X Wx (.Name x pos) (con2 (.glo s)) := by
  obtain ⟨a, h⟩ := hm
  exact e2_glo s h hx hg hd
end
section
variable {X : Cx} {Wx : WX} {k kn n : Nat} {ps ks : List Str} {perm : List Nat} {F : FnD} {x : Str} {c : String} {frz : Bool} {p pos : Pos} {e : Expr} {es : List Expr} {kws : List Keyword} {tf : Dl → Mu → Rs D} {tr tk : Dl → Mu → Rs (List D)}
theorem c_make (M : MkD X.prog X.w X.K X.mg X.base k c F ps ks n perm) (hl : ks.length = kn) (hr : Rm (k + 1) X.A) (tkk : Takes X Wx) (hf : E2 X Wx (.Name x p) tf) (ha : A2 X Wx (e :: es) tr) (hkw : K2 X Wx kws tk)
    (hall : (backToKw pos (keywordEach kws X.env)).all (·.1.isSome) = true := by rfl) (hks : (backToKw pos (keywordEach kws X.env)).filterMap (·.1) = ks := by rfl)
    (he : starEach (e :: es) X.env = (false, eval e X.env) :: starEach es X.env := by rfl) (hpl : ((backTo pos (starEach (e :: es) X.env)).any (·.1) || (backToKw pos (keywordEach kws X.env)).any (·.1.isNone)) = false := by rfl) :
    E2 X Wx (.Call (.Name x p) (e :: es) kws pos) (make2 c F frz n kn perm tf tr tk) := by
  subst hl
  exact e2_make M hr tkk hf ha hkw hall hks he hpl
theorem c_make0 (M : MkD X.prog X.w X.K X.mg X.base k c F ps ks 0 perm) (hl : ks.length = kn) (hr : Rm (k + 1) X.A) (tkk : Takes X Wx) (hf : E2 X Wx (.Name x p) tf) (hkw : K2 X Wx kws tk)
    (hall : (backToKw pos (keywordEach kws X.env)).all (·.1.isSome) = true := by rfl) (hks : (backToKw pos (keywordEach kws X.env)).filterMap (·.1) = ks := by rfl)
    (hpl : ((backTo pos (starEach [] X.env)).any (·.1) || (backToKw pos (keywordEach kws X.env)).any (·.1.isNone)) = false := by rfl) :
    E2 X Wx (.Call (.Name x p) [] kws pos) (make2 c F frz 0 kn perm tf nil2 tk) := by
  subst hl
  exact e2_make0 M hr tkk hf hkw hall hks hpl
end
/-! ### a class of the text -/
/-- what is known of a class: where it stands, that its instances are plain -/
structure ClsOK (K : PySem.W.Frag) (mg : Str → Option Value) (c : String) (C : Addr) : Prop where
  mgc : mg (nm c) = some (.ref C)
  cl : Cls K C
  kp : PySem.W.keepIn K (.ref C) = true
theorem glo_inj {mg : Str → Option Value} {x : Str} {a b : Addr} (h : mg x = some (.ref a)) (h' : mg x = some (.ref b)) : a = b := by
  rw [h] at h'
  injection h' with z
  injection z
/-! ### the law -/
/-- behind the head: the def law, whatever else stands in the heap -/
def LawD (P : Program) (w : World) (K : PySem.W.Frag) (mg : Str → Option Value) (k : Nat) (fa : Addr) (F : FnD) : Prop :=
  ∀ base : Heap, K.In base → base.Ns mainGlobals mg → ∃ fd, Binds K fd ["script"] [] ∧ FD P w K mg base k fa fd ["script"] F
theorem LawD.of {P : Program} {w : World} {K : PySem.W.Frag} {mg : Str → Option Value} {k : Nat} {fa : Addr} {F : FnD} {x qual : Str} {st : Stmt} (h : ∀ base : Heap, FnOK P w K mg base k x qual st ["script"] F) (hfa : mg x = some (.ref fa)) : LawD P w K mg k fa F := by
  intro base _ _
  obtain ⟨f, fd, h1, h2, h3, h4, h5⟩ := (h base).ex
  rw [hfa] at h1
  injection h1 with h1
  injection h1 with h1
  subst h1
  exact ⟨fd, h4, h5⟩
/-- the world in which nothing but the script stands -/
def wd0 (H : Hp) : Wd := { al := [], lv := fun _ => False, O := fun _ => False, H := H }
theorem sim0 {K : PySem.W.Frag} {mg : Str → Option Value} (H : Hp) : Sim K mg (wd0 H) [] := by
  refine ⟨rfl, List.nodup_nil, fun a h => ?_, fun a h => ?_, fun r a h => ?_, fun a h => ?_, fun r a c h => ?_, fun a h => ?_⟩
  · cases h
  · exact h.elim
  · cases h
  · exact h.elim
  · cases h
  · exact h.elim
theorem sp_law {P : Program} {w : World} {K : PySem.W.Frag} {mg : Str → Option Value} {base : Heap} {k : Nat} {f : Addr} {fd : FuncData} {F : FnD} (hF : FD P w K mg base k f fd ["script"] F) {H : Hp} {a : Addr} {ns : List Int} (hS : SqL K H a (ns.map V.int))
    (ht : ∃ m, F [.scr ns] [] = .ok (.bl true) m) : spD K mg 1 F [.ref a] H (fun v _ => v = .bl true) fun _ _ _ => False := by
  obtain ⟨m, hm⟩ := ht
  refine ⟨rfl, wd0 H, [.scr ns], [], rfl, sim0 H, DRs.one ?_, ?_⟩
  · simp only [DR]
    exact ⟨a, rfl, hS.imp (fun z => ⟨z, fun q => q⟩) id⟩
  · rw [hm]
    intro v W' x S r
    simpa only [DR] using r
section
variable {P : Program} {w : World} {K : PySem.W.Frag} {mg mb : Str → Option Value} {k : Nat} {fa a : Addr} {F : FnD} {s1 : Shared} {us : List Value} {ns : List Int}
/-- from a heap of which only the script is told -/
theorem law_from (hK : K.In s1.heap) (nsM : s1.heap.Ns mainGlobals mg) (nsB : s1.heap.Ns builtinsNs mb) (eqB : ∀ x : Str, x ≠ "__name__" → mb x = bootBuiltins x) (lim : s1.heap.NoLimit) (noG : s1.gens = #[])
    (at_ : s1.heap.get? a = some { cls := .type "list", data := .seq us.toArray }) (room : Rm k callerA) (L : LawD P w K mg k fa F) (ht : ∃ m, F [.scr ns] [] = .ok (.bl true) m)
    (H : Hp) (only : Only H) (seq : SqL K H a (ns.map V.int)) (held : HOk P w H s1.heap) (alone : ∀ b, H b ≠ none → b = a) (apart : H a ≠ none → K.lookup a = none) :
    codeAny (model P w) callerA (.call (.ref fa) ⟨[.ref a], []⟩) (fun r s' => r = .ok (.ret (.bool true)) ∧ OldK s1.heap s'.heap ∧ s'.os = s1.os ∧ AllBare s'.gens) s1 := by
  have under : ∀ {b : Addr} {o : Obj}, s1.heap.get? b = some o → H b = none → (hidT s1.heap H).get? b = some o := fun e n => hidT_get e n
  have off : ∀ {b : Addr} {o : Obj} {es : Array DictEntry} {ep : Nat}, s1.heap.get? b = some o → o.data = .dict es ep → H b = none := by
    intro b o es ep e d
    refine Classical.byContradiction fun n => ?_
    have eb := alone b n
    rw [eb, at_] at e
    injection e with e
    rw [← e] at d
    cases d
  have nsU : ∀ {b : Addr} {m : Str → Option Value}, s1.heap.Ns b m → (hidT s1.heap H).Ns b m := by
    rintro b m ⟨o, es, ep, e, d, r⟩
    exact ⟨o, es, ep, under e (off e d), d, r⟩
  have inU : K.In (hidT s1.heap H) := by
    intro b o e
    refine under (hK b o e) (Classical.byContradiction fun n => ?_)
    have eb := alone b n
    have z := apart (eb ▸ n)
    rw [eb, z] at e
    cases e
  obtain ⟨mc, l1, l2⟩ := lim
  have md : Mod K mg (hidT s1.heap H) := ⟨inU, nsU nsM, ⟨mb, nsU nsB, eqB⟩, mc, nsU l1, l2⟩
  have env : Env0 P w K mg (hidT s1.heap H) callerA [] s1 H := ⟨rfl, md, fun b o e => of_hidT e, Nat.le_of_eq (hidT_size _ _), trivial, fun b hb => (List.not_mem_nil hb).elim, held, .of_eq noG⟩
  obtain ⟨fd, bnd, fd0⟩ := L _ inU (nsU nsM)
  refine codeAny_mono (fd0.run callerA [] s1 H ⟨[.ref a], []⟩ [.ref a] [.ref a] _ _ room env (bnd s1 [.ref a] hK rfl) (.cons rfl .nil) (sp_law fd0 seq ht)) fun r s' h => ?_
  rcases r with e | fl
  · obtain ⟨_, _, _, _, _, _, _, _, _, _, _, _, z⟩ := h
    exact z.elim
  cases fl with
  | next | brk | cont => exact False.elim h
  | ret u =>
    obtain ⟨v, H2, os, bare, un, held2, rv, ev⟩ := h
    have ev : v = V.bl true := ev
    subst ev
    refine ⟨congrArg (fun z => Except.ok (Flow.ret z)) (show u = Value.bool true from rv), OldK.of_keep fun b o e => ?_, os, bare⟩
    by_cases hb : H b = none
    · exact un.keep b o e hb (fun z => (List.not_mem_nil z).elim) (by simp)
    · rcases only b with z | ⟨ob, xs, z⟩
      · exact absurd z hb
      · have g1 := (held b _ z).1
        have g2 := (held2 b _ (un.frzs b ob _ z)).1
        rw [e] at g1
        exact g2.trans g1.symm
theorem law_end (hK : K.In s1.heap) (nsM : s1.heap.Ns mainGlobals mg) (nsB : s1.heap.Ns builtinsNs mb) (eqB : ∀ x : Str, x ≠ "__name__" → mb x = bootBuiltins x) (lim : s1.heap.NoLimit) (noG : s1.gens = #[])
    (at_ : s1.heap.get? a = some { cls := .type "list", data := .seq us.toArray }) (hi : IntsAre us ns) (small : ns.length ≤ sizeLine) (room : Rm k callerA) (L : LawD P w K mg k fa F) (ht : ∃ m, F [.scr ns] [] = .ok (.bl true) m) :
    codeAny (model P w) callerA (.call (.ref fa) ⟨[.ref a], []⟩) (fun r s' => r = .ok (.ret (.bool true)) ∧ OldK s1.heap s'.heap ∧ s'.os = s1.os ∧ AllBare s'.gens) s1 := by
  have vs := vals_ints hi
  have len := hi.length
  by_cases hk : K.lookup a = none
  · refine law_from hK nsM nsB eqB lim noG at_ room L ht (fun b => if b = a then some (.frz { cls := .type "list", data := .seq us.toArray } (.lst (ns.map V.int))) else none) ?_ (.inl (.inr ⟨_, if_pos rfl⟩)) ?_ ?_ fun _ => hk
    · intro b
      by_cases hb : b = a
      · exact .inr ⟨_, _, if_pos hb⟩
      · exact .inl (if_neg hb)
    · intro b u z
      dsimp only at z
      by_cases hb : b = a
      · rw [if_pos hb] at z
        injection z with z
        subst z hb
        exact ⟨at_, by rw [List.length_map]; exact small, us, _, vs, at_⟩
      · rw [if_neg hb] at z
        cases z
    · intro b z
      by_cases hb : b = a
      · exact hb
      · exact absurd (if_neg hb) z
  · obtain ⟨o, hk⟩ := Option.ne_none_iff_exists'.mp hk
    have e := hK a o hk
    rw [at_] at e
    injection e with e
    subst e
    exact law_from hK nsM nsB eqB lim noG at_ room L ht (fun _ => none) (fun _ => .inl rfl) (.inr ⟨_, us.toArray, _, hk, rfl, rfl, rfl, by rw [List.size_toArray, len]; exact small, by simpa using vs⟩) (fun b u z => by cases z) (fun b z => absurd rfl z) fun z => absurd rfl z
end
/-- what is left behind the head -/
theorem walkD {l : PySem.W.OpenLaw} {k : Nat} {q : Program} {loose : List Str} {XP : (Str → Option Value) → Heap → Prop} {YP : World → Heap → Prop} {d : DefRec} {K : Params → PySem.W.Frag} {F : FnD}
    (hn : l.most = some 63) (hdf : d.params.defaults = []) (room : Rm k callerA) (hY : ∀ (w : World) (h : Heap), YP w h → (K w.params).In h)
    (hL : ∀ (w : World) (mg : Str → Option Value) (fa : Addr) (h : Heap), (K w.params).In h → h.Ns mainGlobals mg → mg d.name = some (.ref fa) → LawD l.prog w (K w.params) mg k fa F)
    (ht : ∀ ns : List Int, ns.length ≤ 63 → ∃ m, F [.scr ns] [] = .ok (.bl true) m) : PySem.W.WalkO q loose XP YP l.row.toRowW d [] (fun f vs => PySem.call f vs) := by
  refine Att.attach_call hn hdf fun w s0 s1 mg mb fa o pm cd doc a vs ns G Y ho hd hcd hmg hobj hints hlen hg => ?_
  have small : ns.length ≤ sizeLine := Nat.le_trans hlen (by rw [sizeLine_eq]; decide)
  exact law_end (hY w _ Y) G.T.g G.T.b G.T.builtins G.T.nolimit hg hobj hints small room (hL w mg fa _ (hY w _ Y) G.T.g hmg) (ht ns hlen)
end Dn
set_option Elab.async false
set_option linter.all false
set_option maxRecDepth 100000
set_option maxHeartbeats 2000000
namespace Dn
open PySem PySem.Spec PyProof.Rows L2
/-! ### names of the machine -/
theorem bt_len : bootBuiltins "len" = some (.builtin "len") := by decide +kernel
theorem bt_abs : bootBuiltins "abs" = some (.builtin "abs") := by decide +kernel
theorem bt_sum : bootBuiltins "sum" = some (.builtin "sum") := by decide +kernel
theorem bt_all : bootBuiltins "all" = some (.builtin "all") := by decide +kernel
theorem bt_any : bootBuiltins "any" = some (.builtin "any") := by decide +kernel
theorem bt_min : bootBuiltins "min" = some (.builtin "min") := by decide +kernel
theorem bt_max : bootBuiltins "max" = some (.builtin "max") := by decide +kernel
theorem bt_sorted : bootBuiltins "sorted" = some (.builtin "sorted") := by decide +kernel
theorem bt_repr : bootBuiltins "repr" = some (.builtin "repr") := by decide +kernel
theorem bt_isinstance : bootBuiltins "isinstance" = some (.builtin "isinstance") := by decide +kernel
theorem bt_divmod : bootBuiltins "divmod" = some (.builtin "divmod") := by decide +kernel
theorem bt_int : bootBuiltins "int" = some (.type "int") := by decide +kernel
theorem bt_str : bootBuiltins "str" = some (.type "str") := by decide +kernel
theorem bt_bool : bootBuiltins "bool" = some (.type "bool") := by decide +kernel
theorem bt_tuple : bootBuiltins "tuple" = some (.type "tuple") := by decide +kernel
theorem bt_list : bootBuiltins "list" = some (.type "list") := by decide +kernel
theorem bt_dict : bootBuiltins "dict" = some (.type "dict") := by decide +kernel
/-! ### classes, from what the written part says -/
section
variable {P : Program} {w : World} {K : PySem.W.Frag} {mg : Str → Option Value} {base : Heap} {k : Nat} {c : String} {C : Addr} {F : FnD}
theorem fldOk_of {cs : List String} {f : String} (h : ∀ c ∈ cs, ∃ C, ClsOK K mg c C ∧ NoAttr K C (nm f)) : FldOk K mg cs f := by
  intro c hc C hC
  obtain ⟨C', h1, h2⟩ := h c hc
  cases glo_inj h1.mgc hC
  exact ⟨h1.cl, h2⟩
/-- one class's property -/
theorem tblP_one {X : Cx} {f : String} {sf : Str} (hc : ClsOK X.K X.mg c C) (h : ∃ p g fd, PropOf X.K C (nm f) p g ∧ FD X.prog X.w X.K X.mg X.base k g fd [sf] F ∧ Binds X.K fd [sf] []) : TblP X k f [(c, F)] sf := by
  intro c' F' hl C' hC'
  simp only [List.lookup] at hl
  split at hl
  · rename_i e
    cases hl
    have e := eq_of_beq e
    subst e
    cases glo_inj hc.mgc hC'
    obtain ⟨p, g, fd, h1, h2, h3⟩ := h
    exact ⟨hc.cl, p, g, fd, h1, h2, h3⟩
  · cases hl
theorem isBBs : ∀ b ∈ ["int", "str", "bool", "tuple", "list", "dict"], PySem.W.kitMeta b = true := by decide +kernel
/-- isinstance, with one class of the text -/
theorem isOk_one {X : Cx} (hc : ClsOK X.K X.mg c C) (h1 : PySem.W.findIn X.K (.ref C) "__class__" = some (some (.builtin "object.__class__"))) (h2 : PySem.W.specialIn X.K (.builtin "object.__class__") "__get__" = some (some (.builtin "getset_descriptor.__get__")))
    (h3 : PySem.W.takesIn X.K (.builtin "object.__class__") = some true) (h4 : PySem.W.mroIn X.K C (.type "object") = some true) (h5 : PySem.W.isClsIn X.K C = true) (h6 : PySem.W.typeIn X.K (.ref C) = some (.type "type"))
    (h7 : ∀ b ∈ ["int", "str", "bool", "tuple", "list", "dict"], PySem.W.subIn X.K (.ref C) (.type b) = some false) (h8 : ∀ a ∈ ["NoneType", "bool", "int", "str", "tuple", "list", "dict"], PySem.W.subIn X.K (.type a) (.ref C) = some false) : IsOk X [c] := by
  have one : ∀ c' ∈ [c], ∀ C', X.mg (nm c') = some (.ref C') → c' = c ∧ C' = C := by
    intro c' h C' hC'
    have := List.mem_singleton.mp h
    subst this
    exact ⟨rfl, (glo_inj hc.mgc hC').symm⟩
  refine ⟨fun c' h C' hC' => ?_, fun c' h C' hC' b hb => ?_, fun c' h C' hC' c2 h' C2 hC2 => ?_, fun c' h C' hC' a ha => ?_⟩
  · obtain ⟨rfl, rfl⟩ := one c' h C' hC'
    exact ⟨hc.cl, h1, h2, h3, h4⟩
  · obtain ⟨rfl, rfl⟩ := one c' h C' hC'
    unfold PySem.W.kitOne PySem.W.kitCls
    rw [if_neg (by intro z; cases z)]
    dsimp only
    rw [if_pos (isBBs b hb), h7 b hb]
  · obtain ⟨rfl, rfl⟩ := one c' h C' hC'
    obtain ⟨rfl, rfl⟩ := one c2 h' C2 hC2
    unfold PySem.W.kitOne
    rw [if_pos (by simp)]
    simp
  · obtain ⟨rfl, rfl⟩ := one c' h C' hC'
    unfold PySem.W.kitOne PySem.W.kitCls
    rw [if_neg (by intro z; cases z)]
    dsimp only
    have : (PySem.W.clsIn X.K C').isSome = true := h5
    rw [this, h6, if_pos (by simp), h8 a ha]
end
/-- the rule of a def, with the sums told -/
theorem okF {P : Program} {w : World} {K : PySem.W.Frag} {mg : Str → Option Value} {base : Heap} {x qual : Str} {st : Stmt} {f : Addr} {fd : FuncData} {N ps : List Str} {k nn np : Nat} {tb : Dl → Mu → Ro} (F : Fun K x qual st f fd) (S : FnScope N ps (defScope st)) (hn : N.length = nn) (hp : ps.length = np)
    (hbody : ∀ (cdv : Value) (A : Around) (outer : List Env) (s : Shared) (H : Hp) (E : XK), Rm k (A.deeper (envOfC qual (defScope st) s.heap.objs.size f cdv)) →
      SS2 (cxOf (L2.CX P w) P w K mg base N qual (defScope st) f cdv A outer s H E) (fun cls d _ H => E cls d H) (defBody st) tb) : FD P w K mg base (k + 1) f fd ps (fnD nn np tb) := by
  subst hn hp
  exact Fun.okD F S hbody
theorem kent_s {w : World} {h : Int} {t : Tok} {v : Value} (s : String) (hh : h = keyH w (.inr (nm s))) : KEnt w ⟨h, .str (nm s) t, v⟩ (DKey.s (ofS s)).k := by
  have e : (DKey.s (ofS s)).k = Sum.inr (nm s) := by simp only [DKey.k, toS_ofS]
  rw [e]
  exact ⟨by simp [keyIs, Value.isStrOf], hh⟩
theorem kent_i {w : World} {h : Int} {t : Tok} {v : Value} (i : Int) (hh : h = keyH w (.inl i)) : KEnt w ⟨h, .int i t, v⟩ (DKey.i i).k := ⟨by simp [DKey.k, keyIs, Value.isInt], hh⟩
theorem ktup2 {K : PySem.W.Frag} {mg : Str → Option Value} {W : Wd} {a : Addr} {dd : Option Addr} {n : Nat} {sl : Array (Option Value)} {i j : Int} {t u : Tok} (h : K.lookup a = some ⟨.type "tuple", dd, .seq #[.int i t, .int j u] n, sl⟩) : DR K mg W (.ktp [.int i, .int j]) (.ref a) := by
  simp only [DR]
  exact ⟨a, [.int i, .int j], rfl, ⟨_, _, _, h, rfl, rfl, by rw [sizeLine_eq]; show 2 ≤ 16777216; decide, .cons ⟨_, rfl⟩ (.cons ⟨_, rfl⟩ .nil)⟩, by simp [DRs, DR]⟩
end Dn
set_option Elab.async false
set_option linter.all false
set_option maxRecDepth 100000
set_option maxHeartbeats 2000000
namespace Dn
open PySem PySem.Spec PyProof.Rows L2
/-! ### zip of three -/
def ItZ3 (K : PySem.W.Frag) (k1 k2 k3 : Sk) : It :=
  ⟨fun i H => ∃ vs ws us x y u, Cont K H k1 vs ∧ Cont K H k2 ws ∧ Cont K H k3 us ∧ vs[i]? = some x ∧ ws[i]? = some y ∧ us[i]? = some u,
    fun i H v H' => ∃ T x y u, v = .ref T ∧ H T = none ∧ H' = upd H T (.tup [x, y, u]) ∧ (∀ vs, Cont K H k1 vs → vs[i]? = some x) ∧ (∀ ws, Cont K H k2 ws → ws[i]? = some y) ∧ ∀ us, Cont K H k3 us → us[i]? = some u,
    fun i H => ∃ vs ws us, Cont K H k1 vs ∧ Cont K H k2 ws ∧ Cont K H k3 us ∧ i = min vs.length (min ws.length us.length)⟩
theorem turn_zip3 {P : Program} {w : World} {K : PySem.W.Frag} {elts : List Expr} {kk : Nat} {tpos : Pos} (k1 k2 k3 : Sk) {z TI TO i1 i2 i3 : Addr} (D : [z, TI, TO, i1, i2, i3].Nodup) :
    Turn P w K (.Tuple elts kk tpos) (ItZ3 K k1 k2 k3) [z, TI, TO, i1, i2, i3] z (fun i h => IsZip h z TI TO .none ∧ IsTupOf3 h TI (.ref i1) (.ref i2) (.ref i3) ∧ (∃ x y u, IsTupOf3 h TO x y u) ∧ Own k1 i1 i h ∧ Own k2 i2 i h ∧ Own k3 i3 i h) := by
  simp only [List.nodup_cons, List.mem_cons, List.not_mem_nil, or_false, not_or, not_false_eq_true, List.nodup_nil, and_true] at D
  obtain ⟨⟨d1, d2, d3, d4, d4'⟩, ⟨d5, d6, d7, d7'⟩, ⟨d8, d9, d9'⟩, ⟨d10, d11⟩, d12⟩ := D
  have sepOf : ∀ {X : Cx} {pins : List (Addr × Obj)} {H : Hp} {fp1 fp2 fp3 : List Addr}, (∀ b ∈ [z, TI, TO, i1, i2, i3], FpOk X pins H b) → i1 ∈ fp1 → i2 ∈ fp2 → i3 ∈ fp3 → (∀ b ∈ fp1, b = i1 ∨ ¬ FpOk X pins H b) → (∀ b ∈ fp2, b = i2 ∨ ¬ FpOk X pins H b) → (∀ b ∈ fp3, b = i3 ∨ ¬ FpOk X pins H b) → ZipSep3 z TI TO i1 i2 i3 fp1 fp2 fp3 := fun {X pins H fp1 fp2 fp3} hf m1 m2 m3 s1 s2 s3 => {
    TIz := Ne.symm d1, TOz := Ne.symm d2, TITO := d5, TIi1 := d6, mem1 := m1, mem2 := m2, TIi2 := d7, TIi3 := d7', mem3 := m3
    zf1 := fun q => (s1 z q).elim d3 fun n => n (hf z (by simp))
    Tf1 := fun q => (s1 TO q).elim d8 fun n => n (hf TO (by simp))
    zf2 := fun q => (s2 z q).elim d4 fun n => n (hf z (by simp))
    Tf2 := fun q => (s2 TO q).elim d9 fun n => n (hf TO (by simp))
    zf3 := fun q => (s3 z q).elim d4' fun n => n (hf z (by simp))
    Tf3 := fun q => (s3 TO q).elim d9' fun n => n (hf TO (by simp))
    sep1_2 := fun q => (s2 i1 q).elim d10 fun n => n (hf i1 (by simp))
    sep1_3 := fun q => (s3 i1 q).elim d11 fun n => n (hf i1 (by simp))
    sep2_1 := fun q => (s1 i2 q).elim (Ne.symm d10) fun n => n (hf i2 (by simp))
    sep2_3 := fun q => (s3 i2 q).elim d12 fun n => n (hf i2 (by simp))
    sep3_1 := fun q => (s1 i3 q).elim (Ne.symm d11) fun n => n (hf i3 (by simp))
    sep3_2 := fun q => (s2 i3 q).elim (Ne.symm d12) fun n => n (hf i3 (by simp)) }
  refine ⟨by simp, fun i h st c hc => ?_, fun i h h' st k => ?_, ?_, ?_, fun A i s Q E st h => wpAny_pyIter_zip st.1 h⟩
  · obtain ⟨hz, hTI, ⟨x, y, u, hTO⟩, h1, h2, h3⟩ := st
    have e' : c = z ∨ c = TI ∨ c = TO ∨ c = i1 ∨ c = i2 ∨ c = i3 := by simpa using hc
    rcases e' with q | q | q | q | q | q
    · rw [q]; exact ⟨_, hz, fun v q => nomatch q⟩
    · rw [q]; exact ⟨_, hTI, fun v q => nomatch q⟩
    · rw [q]; exact ⟨_, hTO, fun v q => nomatch q⟩
    · rw [q]; exact h1.obj
    · rw [q]; exact h2.obj
    · rw [q]; exact h3.obj
  · obtain ⟨hz, hTI, ⟨x, y, u, hTO⟩, h1, h2, h3⟩ := st
    exact ⟨k z (by simp) _ hz, k TI (by simp) _ hTI, ⟨x, y, u, k TO (by simp) _ hTO⟩, h1.at fun o q => k i1 (by simp) o q, h2.at fun o q => k i2 (by simp) o q, h3.at fun o q => k i3 (by simp) o q⟩
  · intro X hP hw hK hc i pins s σ H E I hf st hg
    subst hP hw hK
    obtain ⟨hz, hTI, ⟨x0, y0, u0, hTO⟩, h1, h2, h3⟩ := st
    obtain ⟨vs, ws, us, x, y, u, hqx, hqy, hqu, hx, hy, hu⟩ := hg
    obtain ⟨fp1, P1, St1, D1, st1, m1, s1, rel1, own1⟩ := draw_at (I.ok.hd hc) I hqx h1 (hf i1 (by simp))
    obtain ⟨fp2, P2, St2, D2, st2, m2, s2, rel2, own2⟩ := draw_at (I.ok.hd hc) I hqy h2 (hf i2 (by simp))
    obtain ⟨fp3, P3, St3, D3, st3, m3, s3, rel3, own3⟩ := draw_at (I.ok.hd hc) I hqu h3 (hf i3 (by simp))
    have hzl : z < s.heap.objs.size := Heap.lt_size hz
    refine wpAny_pyNext_zipD3_item (sepOf hf m1 m2 m3 s1 s2 s3) D1 D2 D3 hz hTI hTO st1 st2 st3 (List.getElem?_eq_some_iff.mp hx).1 (List.getElem?_eq_some_iff.mp hy).1 (List.getElem?_eq_some_iff.mp hu).1 fun u1 u2 u3 h' tk p1 p2 p3 z' TO' t1 t2 t3 hT hsz hk => ?_
    obtain ⟨x', hx', ru1⟩ := rel1 i u1 p1
    rw [hx] at hx'; cases hx'
    obtain ⟨y', hy', ru2⟩ := rel2 i u2 p2
    rw [hy] at hy'; cases hy'
    obtain ⟨q', hq', ru3⟩ := rel3 i u3 p3
    rw [hu] at hq'; cases hq'
    refine ⟨_, rfl, wpAny_letOwnedTupleGo_zip (s := { s with heap := h', toks := tk }) z' fun h'' z'' sb => ?_⟩
    have hT2 : h''.get? s.heap.objs.size = some { cls := .type "tuple", data := .seq #[u1, u2, u3] } := (sb.2 _ (Nat.ne_of_gt hzl)).trans hT
    have new : ObjOk X.prog X.w (upd H s.heap.objs.size (.tup [x, y, u])) h'' s.heap.objs.size (.tup [x, y, u]) :=
      ⟨by show 3 ≤ sizeLine; decide, [u1, u2, u3], .cons ru1 (.cons ru2 (.cons ru3 .nil)), ⟨_, hT2, rfl, _, rfl⟩⟩
    have I1 : Inv X pins σ (upd H s.heap.objs.size (.tup [x, y, u])) { s with heap := h'', toks := tk } :=
      I.turnedNew (t' := tk) (ch := [z, TI, TO, i1, i2, i3]) (fun c o hb q => (sb.2 c (fun q' => hb (by simp [q']))).trans (hk c o (fun q' => hb (by simp [q'])) (fun q' => hb (by simp [q'])) (fun q' => hb (by simp [q'])) (fun q' => hb (by simp [q'])) (fun q' => hb (by simp [q'])) q)) hf (Nat.le_refl _) new
    refine ⟨.ref s.heap.objs.size, _, I1, rfl, ⟨_, x, y, u, rfl, I.hok.fresh (Nat.le_refl _), rfl, fun l hl => by rw [hl.inj I hqx]; exact hx, fun l hl => by rw [hl.inj I hqy]; exact hy, fun l hl => by rw [hl.inj I hqu]; exact hu⟩, ⟨z'', ?_, ⟨u1, u2, u3, ?_⟩, ?_, ?_, ?_⟩, fun c hcm => ?_⟩
    · exact (sb.2 _ (Ne.symm d1)).trans (hk _ _ (Ne.symm d1) d5 d6 d7 d7' hTI)
    · exact (sb.2 _ (Ne.symm d2)).trans TO'
    · exact (own1 _ _ t1).at fun o q => (sb.2 _ (Ne.symm d3)).trans q
    · exact (own2 _ _ t2).at fun o q => (sb.2 _ (Ne.symm d4)).trans q
    · exact (own3 _ _ t3).at fun o q => (sb.2 _ (Ne.symm d4')).trans q
    · have hlt : c < s.heap.objs.size := by
        have e' : c = z ∨ c = TI ∨ c = TO ∨ c = i1 ∨ c = i2 ∨ c = i3 := by simpa using hcm
        rcases e' with q | q | q | q | q | q
        · rw [q]; exact hzl
        · rw [q]; exact Heap.lt_size hTI
        · rw [q]; exact Heap.lt_size hTO
        · rw [q]; obtain ⟨_, e1, _⟩ := h1.obj; exact Heap.lt_size e1
        · rw [q]; obtain ⟨_, e2, _⟩ := h2.obj; exact Heap.lt_size e2
        · rw [q]; obtain ⟨_, e3, _⟩ := h3.obj; exact Heap.lt_size e3
      rw [upd_ne (Nat.ne_of_lt hlt)]
      exact (hf c hcm).1
  · intro X hP hw hK hc i pins s σ H E I hf st hg
    subst hP hw hK
    obtain ⟨hz, hTI, ⟨x0, y0, u0, hTO⟩, h1, h2, h3⟩ := st
    obtain ⟨vs, ws, us, hqx, hqy, hqu, hend⟩ := hg
    obtain ⟨fp1, P1, St1, D1, st1, m1, s1, rel1, own1⟩ := draw_at (I.ok.hd hc) I hqx h1 (hf i1 (by simp))
    obtain ⟨fp2, P2, St2, D2, st2, m2, s2, rel2, own2⟩ := draw_at (I.ok.hd hc) I hqy h2 (hf i2 (by simp))
    obtain ⟨fp3, P3, St3, D3, st3, m3, s3, rel3, own3⟩ := draw_at (I.ok.hd hc) I hqu h3 (hf i3 (by simp))
    exact wpAny_pyNext_zipD3_end (sepOf hf m1 m2 m3 s1 s2 s3) D1 D2 D3 hz hTI hTO st1 st2 st3 (by omega) (by omega) (by omega) (by omega) fun h' tk hk => ⟨rfl, I.turnedL (t' := tk) (ch := [z, TI, TO, i1, i2, i3]) (fun c o hb q =>
      hk c o (fun q' => hb (by simp [q'])) (fun q' => hb (by simp [q'])) (fun q' => hb (by simp [q'])) (fun q' => hb (by simp [q'])) (fun q' => hb (by simp [q'])) q) hf⟩
section
variable {X : Cx} {e e2 e3 : Expr} {ta : TA}
def iZip3 (K : PySem.W.Frag) (ta : TA) : TI := fun σ H R => ta σ H fun vs H1 => ∃ k1 k2 k3 ws1 ws2 ws3, vs = [k1.v, k2.v, k3.v] ∧ Cont K H1 k1 ws1 ∧ Cont K H1 k2 ws2 ∧ Cont K H1 k3 ws3 ∧ R (ItZ3 K k1 k2 k3) H1
theorem pi_zip3 {p pos tpos : Pos} {elts : List Expr} {kk : Nat} (hm : X.mg "zip" = none) (ha : PA X [e, e2, e3] ta) (hg : Gl X "zip" := by rfl)
    (hs : starEach [e, e2, e3] X.env = (false, eval e X.env) :: starEach [e2, e3] X.env := by rfl) (hpl : (backTo pos (starEach [e2, e3] X.env)).any (·.1) = false := by rfl) :
    PI X (.Tuple elts kk tpos) (.Call (.Name "zip" p) [e, e2, e3] [] pos) (iZip3 X.K ta) := by
  refine ⟨fun pins s σ H R I h => ?_⟩
  refine Call_ (ld_blt I hg hm PyProof.Rows.boot_zip (PyProof.Rows.callWith_type1 (thn (ha.run pos pins s σ H _ I h) fun us s1 ⟨vs, H1, I1, r1, k1, k2, k3, ws1, ws2, ws3, ex, hc1, hc2, hc3, q⟩ => ?_) hs hpl))
  subst ex
  cases r1 with | cons ru1 t => ?_
  cases t with | cons ru2 t => ?_
  cases t with | cons ru3 t => ?_
  cases t
  rename_i u1 u2 u3
  obtain ⟨o1, H1c, B1, h1, own1⟩ := begin_of I1 hc1 ru1
  obtain ⟨o2, H2c, B2, h2, own2⟩ := begin_of I1 hc2 ru2
  obtain ⟨o3, H3c, B3, h3, own3⟩ := begin_of I1 hc3 ru3
  refine zip_begins3 B1 B2 B3 h1 h2 h3 fun h' hz hTI hTO g1 g2 g3 hsz hk => wpAny_pyIter_zip hz ?_
  have I2 : Inv X pins σ H1 { s1 with heap := h' } := I1.kept (t' := s1.toks) hk
  refine ⟨s1.heap.objs.size + 5, [s1.heap.objs.size + 5, s1.heap.objs.size + 3, s1.heap.objs.size + 4, s1.heap.objs.size, s1.heap.objs.size + 1, s1.heap.objs.size + 2], _, _, H1, rfl, I2, turn_zip3 k1 k2 k3 (by simp), ⟨hz, hTI, ⟨_, _, _, hTO⟩, own1 _ _ g1, own2 _ _ g2, own3 _ _ g3⟩, fun b hb => ?_, q⟩
  have e' : b = s1.heap.objs.size + 5 ∨ b = s1.heap.objs.size + 3 ∨ b = s1.heap.objs.size + 4 ∨ b = s1.heap.objs.size ∨ b = s1.heap.objs.size + 1 ∨ b = s1.heap.objs.size + 2 := by simpa using hb
  have hle : s1.heap.objs.size ≤ b := by rcases e' with z | z | z | z | z | z <;> rw [z] <;> first | exact Nat.le_add_right _ _ | exact Nat.le_refl _
  exact I1.fpOk hle (I1.hok.fresh hle)
end
def zip3L (xs ys zs : List D) : List D := List.zipWith (fun a (bc : D × D) => .tup [a, bc.1, bc.2]) xs (List.zip ys zs)
def zip3D (ds : List D) (m : Mu) : Rs (List D) := match ds with
  | [x, y, z] => match itemsF x, itemsF y, itemsF z with | some xs, some ys, some zs => .ok (zip3L xs ys zs) m | _, _, _ => .bad
  | _ => .bad
section
variable {X : Cx} {Wx : WX} {a b c : Expr} {tr : Dl → Mu → Rs (List D)} {p pos tpos : Pos} {elts : List Expr} {kk : Nat}
theorem i2_zip3 (hm : X.mg "zip" = none) (ha : A2 X Wx [a, b, c] tr) (hg : Gl X "zip" := by rfl) (hs : starEach [a, b, c] X.env = (false, eval a X.env) :: starEach [b, c] X.env := by rfl) (hpl : (backTo pos (starEach [b, c] X.env)).any (·.1) = false := by rfl) :
    I2 X Wx (.Tuple elts kk tpos) (.Call (.Name "zip" p) [a, b, c] [] pos) (on2 zip3D tr) :=
  PI.wk (pi_zip3 hm ha hg hs hpl) fun σ H R ⟨W, δ, m, e, S, N, h⟩ => ⟨W, δ, m, e, S, N, (Post.bind h).mono fun v H1 ⟨W1, m1, ds, e1, x1, S1, r1, h1⟩ => by
    subst e1
    unfold zip3D at h1
    split at h1
    · rename_i x y z
      split at h1
      · rename_i xs ys zs hq1 hq2 hq3
        simp only [DRs] at r1
        obtain ⟨v1, _, rfl, r1, v2, _, rfl, r2, v3, _, rfl, r3, rfl⟩ := r1
        obtain ⟨k1, vs, rfl, hc1, rs1⟩ := sk_of r1 hq1
        obtain ⟨k2, ws, rfl, hc2, rs2⟩ := sk_of r2 hq2
        obtain ⟨k3, us, rfl, hc3, rs3⟩ := sk_of r3 hq3
        refine ⟨k1, k2, k3, vs, ws, us, rfl, hc1.cont, hc2.cont, hc3.cont, h1 _ W1 Ext.refl S1 fun W' m' x' S' i => ⟨fun d hd => ?_, fun hi => ⟨vs, ws, us, (hc1.mono (x'.keep S1)).cont, (hc2.mono (x'.keep S1)).cont, (hc3.mono (x'.keep S1)).cont, by rw [hi, rs1.len, rs2.len, rs3.len]; simp [zip3L]⟩⟩⟩
        unfold zip3L at hd
        rw [List.getElem?_zipWith] at hd
        split at hd
        · rename_i y1 bc hy1 hbc
          cases hd
          obtain ⟨y2, y3⟩ := bc
          have hbc := List.getElem?_zip_eq_some.mp hbc
          obtain ⟨u1, hu1, ru1⟩ := (rs1.mono (x'.keep S1)).get hy1
          obtain ⟨u2, hu2, ru2⟩ := (rs2.mono (x'.keep S1)).get hbc.1
          obtain ⟨u3, hu3, ru3⟩ := (rs3.mono (x'.keep S1)).get hbc.2
          refine ⟨⟨vs, ws, us, u1, u2, u3, (hc1.mono (x'.keep S1)).cont, (hc2.mono (x'.keep S1)).cont, (hc3.mono (x'.keep S1)).cont, hu1, hu2, hu3⟩, fun z H' ⟨T, a1, a2, a3, ez, hT, eH, q1, q2, q3⟩ => ?_⟩
          have z1 := q1 vs (hc1.mono (x'.keep S1)).cont
          rw [hu1] at z1; cases z1
          have z2 := q2 ws (hc2.mono (x'.keep S1)).cont
          rw [hu2] at z2; cases z2
          have z3 := q3 us (hc3.mono (x'.keep S1)).cont
          rw [hu3] at z3; cases z3
          subst ez eH
          refine ⟨W'.new T _, rfl, Ext.new S' hT, S'.new hT, ?_⟩
          simp only [DR]
          exact ⟨T, _, rfl, ⟨new_at.1, new_at.2⟩, DRs.cons (ru1.mono (Keep.new hT)) (DRs.cons (ru2.mono (Keep.new hT)) (DRs.one (ru3.mono (Keep.new hT))))⟩
        · cases hd
      · exact h1.elim
    · exact h1.elim⟩
end
end Dn
set_option Elab.async false
set_option linter.all false
set_option maxRecDepth 100000
set_option maxHeartbeats 2000000
namespace Dn
open PySem PySem.Spec PyProof.Rows L2
/-! ### {k: v} -/
section
variable {X : Cx} {Wx : WX} {ek ev : Expr} {tk tv : Dl → Mu → Rs D} {pos : Pos}
def put1 (p : Nat) (k v : D) (m : Mu) : Rs D := match m[p]? with
  | some (.dct [] []) => match dkey k with
    | some k' => .ok (.ref p) (m.set p (.dct [k'] [v]))
    | none => .bad
  | _ => .bad
def dict1 (tk tv : Dl → Mu → Rs D) : Dl → Mu → Rs D := fun δ m => (tk δ (m ++ [.dct [] []])).bind fun k m1 => (tv δ m1).bind fun v m2 => put1 m.length k v m2
theorem e2_dict1 (hk : E2 X Wx ek tk) (hv : E2 X Wx ev tv)
    (hp : (evalEachOpt [some ek] X.env).zip (List.map (fun v => do let x ← v; standAt pos; pure x) (evalEach [ev] X.env)) = List.map (fun (p : Sem Value × Sem Value) => (some p.fst, p.snd)) [(eval ek X.env, do let x ← eval ev X.env; standAt pos; pure x)] := by rfl) :
    E2 X Wx (.Dict [some ek] [ev] pos) (dict1 tk tv) := by
  refine ⟨fun pins s σ H Q I ⟨W, δ, m, e, S, N, h⟩ => ?_⟩
  subst e
  have hpn : W.H s.heap.objs.size = none := I.fresh
  refine wpAny_Dict_pairs (knd := mixKind X.prog X.w) hp (by simp) (by simp) ?_
  -- the new dict is a cell
  have hD0 : Heap.DictOf (mixKind X.prog X.w) (s.heap.push { cls := .type "dict", data := .dict #[] }) s.heap.objs.size [] := Heap.DictOf.new s.heap
  have I1 : Inv X pins σ (upd W.H s.heap.objs.size (.dK [])) { s with heap := s.heap.push { cls := .type "dict", data := .dict #[] } } :=
    I.laid (t' := s.toks) (fun b ob q => Heap.get?_push_of_some _ q) (Nat.le_refl _) (by
      unfold ObjOk
      exact ⟨Nat.zero_le _, by
        have := I.big
        exact beq_false_of_ne (Nat.ne_of_gt this), [], .nil, hD0⟩)
  have S1 : Sim X.K X.mg (W.alloc s.heap.objs.size (.dK [])) (m ++ [.dct [] []]) := S.alloc hpn (by intro z; cases z) ⟨[], rfl, rfl, DRs.nil⟩
  have N1 : En X.K X.mg (W.alloc s.heap.objs.size (.dK [])) σ δ := N.mono (Keep.alloc hpn)
  have hal : (W.alloc s.heap.objs.size (.dK [])).al[m.length]? = some s.heap.objs.size := by
    show (W.al ++ [s.heap.objs.size])[m.length]? = _
    rw [← S.len]; simp
  rw [evalPairs.eq_2]
  refine wpAny_bind (thn (hk.run pins _ σ _ _ I1 ⟨W.alloc s.heap.objs.size (.dK []), δ, _, rfl, S1, N1, (Post.bind (R := fun W => DR X.K X.mg W) (Post.ext h (Ext.alloc hpn)))⟩) fun ku s2 ⟨k, H2, I2, rk, W2, m2, kd, e2, x2, S2, r2, h2⟩ => ?_)
  subst e2
  refine wpAny_bind ?_
  refine wpAny_holding ?_
  refine wpAny_bind (thn (hv.run pins _ σ _ _ I2 ⟨W2, δ, _, rfl, S2, N1.mono (x2.keep S1), (Post.bind (R := fun W => DR X.K X.mg W) h2)⟩) fun vu s3 ⟨v, H3, I3, rv, W3, m3, vd, e3, x3, S3, r3, h3⟩ => ?_)
  subst e3
  unfold put1 at h3
  split at h3
  case h_2 => exact h3.elim
  rename_i hcell
  split at h3
  case h_2 => exact h3.elim
  rename_i k' hk'
  have hal3 : W3.al[m.length]? = some s.heap.objs.size := (x3.keep S2).get ((x2.keep S1).get hal)
  obtain ⟨o3, ho3, kvs0, rfl, hk0, _⟩ := S3.cell _ _ _ hal3 hcell (by intro z; cases z)
  have hkv0 : kvs0 = [] := by
    cases kvs0 with
    | nil => rfl
    | cons a b => simp at hk0
  subst hkv0
  have O3 : ObjOk X.prog X.w W3.H s3.heap s.heap.objs.size (.dK []) := I3.hok _ _ ho3
  unfold ObjOk at O3
  obtain ⟨_, hsys, vs0, kv0, D3⟩ := O3
  have : vs0 = [] := by cases kv0; rfl
  subst this
  have hkk := dkey_of (r2.mono (x3.keep S2)) hk'
  subst hkk
  refine wpAny_bind (wpAny_standAt ?_)
  refine wpAny_pure ?_
  refine wpAny_bind (wpAny_holding ?_)
  rw [evalPairs.eq_1]
  refine wpAny_pure (wpAny_pure ?_)
  refine ⟨[(k'.k, vu)], by rw [Carries.eq_2, Carries.eq_1]; exact ⟨kV_is rk, rfl, trivial⟩, D3, fun h' hd sb => ?_⟩
  have hp3 : Mut (W3.H s.heap.objs.size) := by rw [ho3]; trivial
  have hm : merged [] [(k'.k, vu)] = [(k'.k, vu)] := rfl
  rw [hm] at hd
  have I4 : Inv X pins σ (upd W3.H s.heap.objs.size (.dK [(k'.k, v)])) { heap := h', gens := s3.gens, drawn := s3.drawn, toks := s3.toks + 1, os := s3.os } := I3.write (t' := s3.toks + 1) (o := .dK [(k'.k, v)]) hp3 (.inl rfl) (fun b u hb q => (sb.2 b hb).trans q) (by
    obtain ⟨o, es, ep, ho, _⟩ := hd
    exact ⟨o, ho⟩) (by
    unfold ObjOk
    exact ⟨by show 1 ≤ sizeLine; decide, hsys, [(k'.k, vu)], .cons ⟨rfl, rv⟩ .nil, hd⟩)
  refine ⟨.ref s.heap.objs.size, _, I4, rfl, ?_⟩
  have lv3 : W3.lv s.heap.objs.size := (S3.lv _ _ hal3).mpr ⟨_, hcell, by intro z; cases z⟩
  have S4 := S3.put (o := .dK [(k'.k, v)]) (c := .dct [k'] [vd]) hal3 hcell (by intro z; cases z) (by intro z; cases z) ⟨[(k'.k, v)], rfl, rfl, DRs.one r3⟩
  exact h3 (.ref s.heap.objs.size) (W3.put s.heap.objs.size (.dK [(k'.k, v)])) (Ext.put lv3) S4 (by simp only [DR]; exact ⟨_, rfl, hal3⟩)
end
/-! lists put together that will be changed -/
def addDM : D → D → Mu → Rs D
  | .lst x, .lst y, m => if x.length + y.length ≤ SZ then .ok (.ref m.length) (m ++ [.lst (x ++ y)]) else .bad
  | _, _, _ => .bad
theorem o_addM {K : PySem.W.Frag} {mg : Str → Option Value} : Op2 K mg (rAdd4 K) addDM := by
  intro W m x y v u Q Wx S rx ry h
  unfold addDM at h
  split at h
  · simp only [DR] at rx ry
    obtain ⟨a, xs, rfl, ha, na, r1⟩ := rx
    obtain ⟨b, ys, rfl, hb, nb, r2⟩ := ry
    split at h
    · rename_i hl
      exact .inr (.inr (.inl ⟨a, b, xs, ys, rfl, rfl, ha, hb, by rw [r1.len, r2.len, SZ_eq]; exact hl, new_cell (c := .lst _) S (by intro z; cases z) ⟨_, rfl, r1.append r2⟩ h⟩))
    · exact h.elim
  · exact h.elim
@[simp] theorem addDM_ll {x y : List D} {m : Mu} : addDM (.lst x) (.lst y) m = if x.length + y.length ≤ SZ then .ok (.ref m.length) (m ++ [.lst (x ++ y)]) else .bad := (rfl)
end Dn
set_option Elab.async false
set_option linter.all false
set_option maxRecDepth 100000
set_option maxHeartbeats 2000000
namespace Dn
open PySem PySem.Spec PyProof.Rows L2
/-! ### dicts whose keys are tuples -/
section
variable {X : Cx} {Wx : WX} {st : Stmt} {t : Dl → Mu → Ro} {tg a : Expr} {ta : Dl → Mu → Rs D} {pos : Pos}
def newDictT : Dl → Mu → Rs D := fun _ m => .ok (.ref m.length) (m ++ [.dctT [] []])
theorem e2_newDictT : E2 X Wx (.Dict [] [] pos) newDictT := PE.wk pe_dnewT fun σ H Q ⟨W, δ, m, e, S, N, h⟩ => by
  subst e
  exact new_cell (c := .dctT [] []) S (by intro z; cases z) ⟨[], rfl, rfl, DRs.nil⟩ h
end
/-! a cell is locked: nobody will change it, and it may be walked -/
def lockS (i : Nat) : Dl → Mu → Ro := fun δ m => match δ[i]? with
  | some (some (.ref r)) => match m[r]? with
    | some (.dctT ks vs) => .next (δ.set i (some (.dctT ks vs))) (m.set r .dead)
    | some (.lst ds) => .next (δ.set i (some (.lst ds))) (m.set r .dead)
    | _ => .bad
  | _ => .bad
def Wd.lock (W : Wd) (a : Addr) (o : HO) : Wd := { W with lv := fun b => W.lv b ∧ b ≠ a, O := fun b => W.O b ∧ b ≠ a, H := upd W.H a o }
section
variable {K : PySem.W.Frag} {mg : Str → Option Value} {W : Wd} {m : Mu}
theorem Keep.lock {a : Addr} {o : HO} (ho : W.O a) : Keep W (W.lock a o) := ⟨⟨[], by simp [Wd.lock]⟩, fun b u e n => ⟨by
  show upd W.H a o b = _
  rw [upd_ne (show b ≠ a from fun z => n (z ▸ ho))]
  exact e, fun z => n z.1⟩⟩
theorem Ext.lock {a : Addr} {o : HO} (hl : W.lv a) : Ext W (W.lock a o) := ⟨⟨[], by simp [Wd.lock]⟩, fun b u e n => ⟨by
  show upd W.H a o b = _
  rw [upd_ne (show b ≠ a from fun z => n (z ▸ hl))]
  exact e, fun z => n z.1⟩, fun b _ n z => n z.1, fun b _ h n => ⟨h, fun z => n (z ▸ hl)⟩, fun b h => by
  show upd W.H a o b ≠ none
  unfold upd
  split
  · exact fun z => nomatch z
  · exact h⟩
theorem Sim.lock {a : Addr} {r : Nat} {c : Cell} {o : HO} (S : Sim K mg W m) (ha : W.al[r]? = some a) (hm : m[r]? = some c) (hO : W.O a) : Sim K mg (W.lock a o) (m.set r .dead) := by
  have hl : r < m.length := (List.getElem?_eq_some_iff.mp hm).1
  refine ⟨by rw [List.length_set]; exact S.len, S.nd, fun b hb => ?_, fun b z => ⟨S.own b z.1, z.2⟩, fun r' b e => ?_, fun b z => S.lva b z.1, fun r' b c' e1 e2 e3 => ?_, fun b hb vs => ?_⟩
  · show upd W.H a o b ≠ none
    unfold upd
    split
    · exact fun z => nomatch z
    · exact S.trk b hb
  · show (W.lv b ∧ b ≠ a) ↔ _
    by_cases hx : r = r'
    · subst hx
      rw [List.getElem?_set_self hl]
      have : b = a := Option.some.inj ((show W.al[r]? = some b from e).symm.trans ha)
      exact ⟨fun z => absurd this z.2, fun ⟨c, h1, h2⟩ => by cases h1; exact absurd rfl h2⟩
    · rw [List.getElem?_set_ne hx]
      have hb : b ≠ a := fun z => hx (nd_get S.nd ha (z ▸ e))
      exact ⟨fun z => (S.lv r' b e).mp z.1, fun z => ⟨(S.lv r' b e).mpr z, hb⟩⟩
  · by_cases hx : r = r'
    · subst hx
      rw [List.getElem?_set_self hl] at e2
      cases e2
      exact absurd rfl e3
    · rw [List.getElem?_set_ne hx] at e2
      obtain ⟨u, eu, hu⟩ := S.cell r' b c' e1 e2 e3
      have hb : b ≠ a := fun z => hx (nd_get S.nd ha (z ▸ e1))
      exact ⟨u, by show upd W.H a o b = _; rw [upd_ne hb]; exact eu, hu.mono (Keep.lock hO)⟩
  · show upd W.H a o b ≠ _
    rw [upd_ne hb.2]
    exact S.ot b hb.1 vs
end
section
variable {X : Cx} {Wx : WX} {st : Stmt} {t : Dl → Mu → Ro} {i : Nat}
theorem s2_lock (h : S2 X Wx st t) : S2 X Wx st (seq2 (lockS i) t) := by
  refine ⟨fun pins s σ H D I ⟨W, δ, m, e, S, N, q⟩ => ?_⟩
  subst e
  unfold seq2 lockS at q
  split at q
  case h_2 => exact q.elim
  rename_i r hr
  obtain ⟨v, hv, rv⟩ := N.get hr
  simp only [DR] at rv
  obtain ⟨a, rfl, ha⟩ := rv
  have es : σ.set i (some (.ref a)) = σ := by
    obtain ⟨h1, h3⟩ := List.getElem?_eq_some_iff.mp hv
    rw [← h3, List.set_getElem_self]
  split at q
  case h_3 => exact q.elim
  case h_2 =>
    rename_i ds hm
    obtain ⟨o, ho, vs, rfl, rs⟩ := S.cell r a _ ha hm (by intro z; cases z)
    have hl : W.lv a := (S.lv r a ha).mpr ⟨_, hm, by intro z; cases z⟩
    have N2 : En X.K X.mg (W.frz a) σ (δ.set i (some (.lst ds))) := by
      have hd : DR X.K X.mg (W.frz a) (.lst ds) (.ref a) := by
        simp only [DR]
        exact ⟨a, vs, rfl, ho, fun z => z.2 rfl, rs.mono Keep.frz⟩
      have h2 := (N.mono (Keep.frz (a := a))).set (i := i) hd
      rwa [es] at h2
    exact h.run pins s σ _ D I ⟨W.frz a, _, _, rfl, S.frz ha hm, N2, PostS.ext q (Ext.frz hl)⟩
  rename_i ks ds hm
  obtain ⟨o, ho, kvs, rfl, hk, rs⟩ := S.cell r a _ ha hm (by intro z; cases z)
  have hl : W.lv a := (S.lv r a ha).mpr ⟨_, hm, by intro z; cases z⟩
  have hO := S.own a hl
  obtain ⟨od, I'⟩ := I.lock ho trivial
  have kp : Keep W (W.lock a (.frz od (.dT kvs))) := Keep.lock hO
  have N2 : En X.K X.mg (W.lock a (.frz od (.dT kvs))) σ (δ.set i (some (.dctT ks ds))) := by
    have hd : DR X.K X.mg (W.lock a (.frz od (.dT kvs))) (.dctT ks ds) (.ref a) := by
      simp only [DR]
      exact ⟨a, kvs, od, rfl, upd_same, fun z => z.2 rfl, hk, rs.mono kp⟩
    have h2 := (N.mono kp).set (i := i) hd
    rwa [es] at h2
  exact h.run pins s σ _ D I' ⟨W.lock a (.frz od (.dT kvs)), _, _, rfl, S.lock ha hm hO, N2, PostS.ext q (Ext.lock hl)⟩
end
def dkD' : DKey → D
  | .i n => .int n
  | .s x => .str x
theorem DRs.keys {K : PySem.W.Frag} {mg : Str → Option Value} {W : Wd} : ∀ ks : List DKey, DRs K mg W (ks.map dkD') ((keyT ks).map kV)
  | [] => DRs.nil
  | .i n :: ks => DRs.cons (by simp only [dkD', DR, DKey.k, kV]) (DRs.keys ks)
  | .s x :: ks => DRs.cons (by simp only [dkD', DR, DKey.k, kV]) (DRs.keys ks)
/-- the keys of a locked dict -/
def itT (ta : Dl → Mu → Rs D) : Dl → Mu → Rs (List D) := fun δ m => (ta δ m).bind fun x m => match x with
  | .dctT ks _ => .ok (ks.map fun k => .tup (k.map dkD')) m
  | _ => .bad
section
variable {X : Cx} {Wx : WX} {tg a : Expr} {ta : Dl → Mu → Rs D}
theorem i2_keysT (ha : E2 X Wx a ta) : I2 X Wx tg a (itT ta) :=
  PI.wk (pi_keys ha) fun σ H R ⟨W, δ, m, e, S, N, h⟩ => ⟨W, δ, m, e, S, N, (Post.bind h).mono fun v H1 ⟨W1, m1, x, e1, x1, S1, r1, h1⟩ => by
    subst e1
    split at h1
    case h_2 => exact h1.elim
    rename_i ks ds
    simp only [DR] at r1
    obtain ⟨d, kvs, o, rfl, hd, no, hk, rs⟩ := r1
    refine ⟨d, o, rfl, .inr ⟨kvs, hd, h1 _ W1 Ext.refl S1 fun W' m' x' S' i => ⟨fun y hy => ?_, fun hi => ?_⟩⟩⟩
    · have hd' := ((x'.keep S1).st d _ hd no).1
      rw [List.getElem?_map, Option.map_eq_some_iff] at hy
      obtain ⟨k, hkk, rfl⟩ := hy
      have hki : (kvs.map (·.1))[i]? = some (keyT k) := by rw [hk, List.getElem?_map, hkk]; rfl
      have hlt : i < kvs.length := by
        have := (List.getElem?_eq_some_iff.mp hki).1
        simpa using this
      refine ⟨⟨hd', hlt⟩, fun z H' ⟨eH, k', v, q, hkv, ez, hq⟩ => ?_⟩
      subst eH ez
      have : k' = keyT k := by
        rw [List.getElem?_map, hkv] at hki
        exact Option.some.inj hki
      subst this
      refine ⟨W', rfl, Ext.refl, S', ?_⟩
      simp only [DR]
      exact ⟨q, _, rfl, ⟨hq, fun z => S'.ot q z _ hq⟩, DRs.keys k⟩
    · refine ⟨((x'.keep S1).st d _ hd no).1, ?_⟩
      have := congrArg List.length hk
      simp only [List.length_map] at this
      rw [hi, List.length_map, this]
      exact Nat.le_refl _⟩
end
end Dn
set_option Elab.async false
set_option linter.all false
set_option maxRecDepth 100000
set_option maxHeartbeats 2000000
namespace Dn
open PySem PySem.Spec PyProof.Rows L2
/-! ### dict of a list of pairs -/
def mergeD : List D → List DKey → List D → Option (List DKey × List D)
  | [], ks, vs => some (ks, vs)
  | .tup [k, v] :: r, ks, vs => match dkey k with
    | some q => if ks.Nodup then mergeD r (dput ks vs q v).1 (dput ks vs q v).2 else none
    | none => none
  | _, _, _ => none
def dictP : BFn := fun ds m => match ds with
  | [x] => match lstOf m x with
    | some ds => match mergeD ds [] [] with
      | some (ks, vs) => .ok (.dct ks vs) m
      | none => .bad
    | none => .bad
  | _ => .bad
theorem merge_of {K : PySem.W.Frag} {mg : Str → Option Value} {W : Wd} : ∀ {es : List D} {us : List V} {ks : List DKey} {vs : List D} {kv0 : List (Key × V)} {ks' : List DKey} {vs' : List D}, DRs K mg W es us → mergeD es ks vs = some (ks', vs') → kv0.map (·.1) = ks.map DKey.k → DRs K mg W vs (kv0.map (·.2)) →
    ∃ (ps : List Addr) (kvs : List (Key × V)), us = ps.map V.ref ∧ Paired (fun p kv => SqT K W.H p [kV kv.1, kv.2]) ps kvs ∧ (mergeK kv0 kvs).map (·.1) = ks'.map DKey.k ∧ DRs K mg W vs' ((mergeK kv0 kvs).map (·.2))
  | [], us, ks, vs, kv0, ks', vs', r, h, hk, rv => by
    simp only [DRs] at r
    subst r
    simp only [mergeD, Option.some.injEq, Prod.mk.injEq] at h
    obtain ⟨rfl, rfl⟩ := h
    exact ⟨[], [], rfl, .nil, hk, rv⟩
  | e :: es, us, ks, vs, kv0, ks', vs', r, h, hk, rv => by
    unfold mergeD at h
    split at h
    · rename_i heq
      cases heq
    · rename_i k v r' ks0 vs0 heq
      simp only [List.cons.injEq] at heq
      obtain ⟨rfl, rfl⟩ := heq
      split at h
      case h_2 => cases h
      rename_i q hq
      split at h
      case isFalse => cases h
      rename_i nd
      simp only [DRs] at r
      obtain ⟨u, us', rfl, r1, r2⟩ := r
      simp only [DR] at r1
      obtain ⟨p, ws, rfl, ht, rw1⟩ := r1
      simp only [DRs] at rw1
      obtain ⟨ku, l1, rfl, rk, vu, l2, rfl, rvv, rfl⟩ := rw1
      have ek := dkey_of rk hq
      subst ek
      obtain ⟨q1, q2⟩ := dput_of (K := K) (mg := mg) (W := W) nd hk rv rvv
      obtain ⟨ps, kvs, e1, e2, e3, e4⟩ := merge_of r2 h q1 q2
      exact ⟨p :: ps, (q.k, vu) :: kvs, by rw [e1]; rfl, .cons (sqT_of ht) e2, e3, e4⟩
    · cases h
theorem cb_dictP {X : Cx} (hc : X.calm = true) : CB X (.type "dict") dictP := by
  intro pins s σ H vs us Q I r ⟨W, m, ds, Wy, e, S, rs, h⟩
  subst e
  unfold dictP at h
  split at h
  case h_2 => exact h.elim
  obtain ⟨v, rfl, r1⟩ := drs1 rs
  split at h
  case h_2 => exact h.elim
  rename_i es hq
  split at h
  case h_2 => exact h.elim
  rename_i ks vs hm
  obtain ⟨a, ws, rfl, hs, rs⟩ := lst_of S r1 hq
  obtain ⟨ps, kvs, e1, e2, e3, e4⟩ := merge_of (kv0 := []) rs hm rfl DRs.nil
  subst e1
  refine call_dictP hc pins s σ W.H _ us Q I r ⟨a, ps, kvs, rfl, hs, e2, fun p hp => ?_⟩
  exact h (.ref p) (W.new p (.dK (mergeK [] kvs))) (Ext.new S hp) (S.new hp) (by simp only [DR]; exact ⟨p, mergeK [] kvs, rfl, ⟨.inl new_at.1, new_at.2⟩, e3, e4.mono (Keep.new hp)⟩)
/-! a, b, c = e1, e2, e3 -/
def par3 (i j l : Nat) (tr : Dl → Mu → Rs (List D)) : Dl → Mu → Ro := fun δ m => (tr δ m).thn δ fun ds m => match ds with
  | [x, y, z] => .next (((δ.set i (some x)).set j (some y)).set l (some z)) m
  | _ => .bad
section
variable {X : Cx}
theorem s2_par3 {Wx : WX} {i j l : Nat} {x y z : Str} {a b c : Expr} {tr : Dl → Mu → Rs (List D)} {px py pz pt pos : Pos} {kt k2 pt2} (hc : X.calm = true) (hN : X.N.Nodup) (hi : X.N[i]? = some x) (hj : X.N[j]? = some y) (hl : X.N[l]? = some z) (hij : i ≠ j) (hil : i ≠ l) (hjl : j ≠ l)
    (hx : X.env.scope.names.lookup x = some .local) (hy : X.env.scope.names.lookup y = some .local) (hz : X.env.scope.names.lookup z = some .local) (ha : A2 X Wx [a, b, c] tr)
    (hw : swappedStores [.Tuple [.Name x px, .Name y py, .Name z pz] kt pt] (.Tuple [a, b, c] k2 pt2) X.env = pure (some [x, y, z])) :
    S2 X Wx (.Assign [.Tuple [.Name x px, .Name y py, .Name z pz] kt pt] (.Tuple [a, b, c] k2 pt2) pos) (par3 i j l tr) :=
  PS.wk (ps_par3 hc hN hi hj hl hij hil hjl hx hy hz ha hw) fun E σ H ⟨W, δ, m, e, S, N, h⟩ => ⟨W, δ, m, e, S, N, (Post.thn S N h).mono fun vs H1 ⟨W1, m1, ds, e1, x1, S1, N1, r1, h1⟩ => by
    subst e1
    split at h1
    · simp only [DRs] at r1
      obtain ⟨u, _, rfl, r1, v, _, rfl, r2, w, _, rfl, r3, rfl⟩ := r1
      exact ⟨u, v, w, rfl, h1 _ W1 Ext.refl S1 (((N1.set r1).set r2).set r3)⟩
    · exact h1.elim⟩
end
end Dn
set_option Elab.async false
set_option linter.all false
set_option maxRecDepth 100000
namespace Dn
open PySem L2
/-! ### how the mirrors compute -/
section
variable {α β : Type} (δ : Dl) (m : Mu) (ta tb tc : Dl → Mu → Rs D) (tr tk : Dl → Mu → Rs (List D)) (tA tB : Dl → Mu → Rs Bool) (f g : D → D → Mu → Rs D) (u t : Dl → Mu → Ro) (F : FnD) (i : Nat) (d : D)
@[simp] theorem var2_ap : var2 i δ m = match δ[i]? with | some (some d) => .ok d m | _ => .bad := (rfl)
@[simp] theorem con2_ap : con2 d δ m = .ok d m := (rfl)
@[simp] theorem nil2_ap : nil2 δ m = .ok [] m := (rfl)
@[simp] theorem cons2_ap : cons2 ta tr δ m = (ta δ m).bind fun x m => (tr δ m).bind fun xs m => .ok (x :: xs) m := (rfl)
@[simp] theorem star2_ap : star2 ta tr δ m = (ta δ m).bind fun x m => match seqOf m x with | some ds => (tr δ m).bind fun xs m => .ok (ds ++ xs) m | none => .bad := (rfl)
@[simp] theorem op2_ap : op2 f ta tb δ m = (ta δ m).bind fun x m => (tb δ m).bind fun y m => f x y m := (rfl)
@[simp] theorem un2_ap (h : D → Mu → Rs D) : un2 h ta δ m = (ta δ m).bind h := (rfl)
@[simp] theorem on2_ap (h : List D → Mu → Rs α) : on2 h tr δ m = (tr δ m).bind h := (rfl)
@[simp] theorem tup2_ap : tup2 tr δ m = (tr δ m).bind fun ds m => if ds.length ≤ SZ then .ok (.tup ds) m else .bad := (rfl)
@[simp] theorem lst2_ap : lst2 tr δ m = (tr δ m).bind fun ds m => if ds.length ≤ SZ then .ok (.lst ds) m else .bad := (rfl)
@[simp] theorem lstM_ap : lstM tr δ m = (tr δ m).bind fun ds m => if ds.length ≤ SZ then .ok (.ref m.length) (m ++ [.lst ds]) else .bad := (rfl)
@[simp] theorem tst2_ap : tst2 ta δ m = (ta δ m).bind tstD := (rfl)
@[simp] theorem bool2_ap : bool2 ta δ m = (ta δ m).bind boolD := (rfl)
@[simp] theorem notT_ap : notT tA δ m = (tA δ m).bind fun b m => .ok (!b) m := (rfl)
@[simp] theorem andT_ap : andT tA tB δ m = (tA δ m).bind fun b m => if b = true then tB δ m else .ok false m := (rfl)
@[simp] theorem orT_ap : orT tA tB δ m = (tA δ m).bind fun b m => if b = true then .ok true m else tB δ m := (rfl)
@[simp] theorem andV_ap : andV ta tb δ m = (ta δ m).bind fun x m => (tstD x m).bind fun k m => if k = true then tb δ m else .ok x m := (rfl)
@[simp] theorem orV_ap : orV ta tb δ m = (ta δ m).bind fun x m => (tstD x m).bind fun k m => if k = true then .ok x m else tb δ m := (rfl)
@[simp] theorem notV_ap : notV ta δ m = (ta δ m).bind fun x m => (tstD x m).bind fun k m => .ok (.bl (!k)) m := (rfl)
@[simp] theorem ifV_ap : ifV tA ta tb δ m = (tA δ m).bind fun b m => if b = true then ta δ m else tb δ m := (rfl)
@[simp] theorem chain2_ap : chain2 f g ta tb tc δ m = (ta δ m).bind fun x m => (tb δ m).bind fun y m => (f x y m).bind fun k m => (boolD k m).bind fun k m => if k = true then (tc δ m).bind fun z m => g y z m else .ok (.bl false) m := (rfl)
@[simp] theorem it2_ap : it2 ta δ m = (ta δ m).bind fun x m => match itemsF x with | some ds => .ok ds m | none => .bad := (rfl)
@[simp] theorem nop2_ap : nop2 δ m = .next δ m := (rfl)
@[simp] theorem seq2_ap : seq2 t u δ m = (t δ m).seq u := (rfl)
@[simp] theorem expr2_ap : expr2 ta δ m = (ta δ m).thn δ fun _ m => .next δ m := (rfl)
@[simp] theorem ret2_ap : ret2 ta δ m = (ta δ m).thn δ fun d m => .ret d m := (rfl)
@[simp] theorem if2_ap : if2 tA t u δ m = (tA δ m).thn δ fun b m => if b = true then t δ m else u δ m := (rfl)
@[simp] theorem never2_ap : never2 δ m = .bad := (rfl)
@[simp] theorem name2_ap : name2 i d δ m = .ok (δ.set i (some d)) m := (rfl)
@[simp] theorem asg2_ap (G : G2f) : asg2 ta G δ m = (ta δ m).thn δ fun d m => match G d δ m with | .ok δ m => .next δ m | _ => .bad := (rfl)
@[simp] theorem forS_ap (it : Dl → Mu → Rs (List D)) (G : G2f) : forS it G t δ m = (it δ m).thn δ fun ds m => for2 G t ds δ m := (rfl)
@[simp] theorem yes2_ap : yes2 δ m = .ok true m := (rfl)
@[simp] theorem lc2_ap (it : Dl → Mu → Rs (List D)) (G : G2f) (vs : List Nat) : lc2 it G tA ta vs δ m = (it δ m).bind fun ds m => (comp2 G tA ta (wipeD δ vs) ds m).nx fun ys m => lcF ys m := (rfl)
@[simp] theorem noPart2_ap : noPart2 δ m = .ok none m := (rfl)
@[simp] theorem part2_ap : part2 ta δ m = (ta δ m).bind partD := (rfl)
@[simp] theorem slc2_ap (tl th : Dl → Mu → Rs (Option Int)) : slc2 ta tl th δ m = (ta δ m).bind fun x m => (tl δ m).bind fun lo m => (th δ m).bind fun hi m => slcD x lo hi m := (rfl)
@[simp] theorem gnil2_ap : gnil2 [] δ m = .ok δ m := (rfl)
@[simp] theorem gcons2_ap (G : G2f) (gs : Gsf) (ds : List D) : gcons2 G gs (d :: ds) δ m = (G d δ m).nx fun δ m => gs ds δ m := (rfl)
@[simp] theorem tupG_ap (gs : Gsf) (ds : List D) : tupG i gs (.tup ds) δ m = if ds.length = i then gs ds δ m else .bad := (rfl)
@[simp] theorem subG_ap : subG ta tb d δ m = (ta δ m).nx fun o m => (tb δ m).nx fun i m => (setD o i d m).nx fun _ m => .ok δ m := (rfl)
@[simp] theorem par2_ap (j : Nat) : par2 i j tr δ m = (tr δ m).thn δ fun ds m => match ds with | [x, y] => .next ((δ.set i (some x)).set j (some y)) m | _ => .bad := (rfl)
@[simp] theorem fld2_ap (cs : List String) (x : String) : fld2 cs x ta δ m = (ta δ m).bind (fldD cs x) := (rfl)
@[simp] theorem setF2_ap (cs : List String) (x : String) : setF2 cs x ta tb δ m = (tb δ m).thn δ fun d m => (ta δ m).thn δ fun o m => (setFD cs x o d m).thn δ fun _ m => .next δ m := (rfl)
@[simp] theorem make2_ap (c : String) (b : Bool) (n k : Nat) (p : List Nat) : make2 c F b n k p ta tr tk δ m = (ta δ m).bind fun x m => match x with
  | .glo c' => if c' = c then (tr δ m).bind fun us m => (tk δ m).bind fun ws m => mkD c F b n k p us ws m else .bad
  | _ => .bad := (rfl)
@[simp] theorem call2K_ap (n k : Nat) (p : List Nat) : call2K F n k p tr tk δ m = (tr δ m).bind fun us m => (tk δ m).bind fun ws m => permD F n k p us ws m := (rfl)
@[simp] theorem cmeth2_ap (c : String) : cmeth2 c F ta tr δ m = (ta δ m).bind fun x m => match x with | .glo c' => if c' = c then (tr δ m).bind fun us m => F (x :: us) m else .bad | _ => .bad := (rfl)
@[simp] theorem bm2_ap (T : String) (G : MFn) : bm2 T G ta tr δ m = (ta δ m).bind fun x m => if tyD T m x = true then (tr δ m).bind fun ds m => G x ds m else .bad := (rfl)
@[simp] theorem newDictT_ap : newDictT δ m = .ok (.ref m.length) (m ++ [.dctT [] []]) := (rfl)
@[simp] theorem newDict_ap : newDict δ m = .ok (.ref m.length) (m ++ [.dct [] []]) := (rfl)
@[simp] theorem get2_ap : get2 ta tb tc δ m = (ta δ m).bind fun x m => if isDct m x = true then (tb δ m).bind fun k m => (tc δ m).bind fun d m => get2D x k d m else .bad := (rfl)
@[simp] theorem fnD_ap (n k : Nat) (ds : List D) : fnD n k t ds m = if ds.length = k then match t (start2 n ds) m with
    | .next _ m => .ok .non m
    | .ret d m => .ok d m
    | .exc c ns vs _ m => .exc c ns vs m
    | _ => .bad
  else .bad := (rfl)
end
theorem SZ_val : SZ = 16777216 := (rfl)
@[simp] theorem start2_ap (n : Nat) (ds : List D) : start2 n ds = ds.map some ++ List.replicate (n - ds.length) none := (rfl)
@[simp] theorem wipeD_nil (δ : Dl) : wipeD δ [] = δ := (rfl)
@[simp] theorem wipeD_cons (δ : Dl) (v : Nat) (vs : List Nat) : wipeD δ (v :: vs) = (wipeD δ vs).set v none := (rfl)
@[simp] theorem lcF_ap (ys : List D) (m : Mu) : lcF ys m = if ys.length ≤ SZ then .ok (.lst ys) m else .bad := (rfl)
section
variable (m : Mu) (i j k : Int) (r : Nat) (x y : Cs) (b : Bool) (ds es : List D) (ns ms : List Int) (ks : List DKey) (d e : D) (s : String) (ss : List String) (δ : Dl)
def lookC (r : Nat) : Option Cell → D
  | some (.lst ds) => .lst ds
  | some (.dct ks ds) => .dct ks ds
  | some (.dctT ks ds) => .dctT ks ds
  | some (.ins c ns ds) => .ins c ns ds
  | _ => .ref r
@[simp] theorem look_ref : look m (.ref r) = lookC r m[r]? := by
  unfold look lookC
  try dsimp only
  all_goals
    generalize m[r]? = q
    cases q with
    | none => rfl
    | some c => cases c <;> rfl
@[simp] theorem look_non : look m .non = .non := (rfl)
@[simp] theorem look_bl : look m (.bl b) = .bl b := (rfl)
@[simp] theorem look_int : look m (.int i) = .int i := (rfl)
@[simp] theorem look_str : look m (.str x) = .str x := (rfl)
@[simp] theorem look_ty : look m (.ty s) = .ty s := (rfl)
@[simp] theorem look_tup : look m (.tup ds) = .tup ds := (rfl)
@[simp] theorem look_lst : look m (.lst ds) = .lst ds := (rfl)
@[simp] theorem look_scr : look m (.scr ns) = .scr ns := (rfl)
@[simp] theorem look_dct : look m (.dct ks ds) = .dct ks ds := (rfl)
@[simp] theorem look_ins : look m (.ins s ss ds) = .ins s ss ds := (rfl)
@[simp] theorem look_ktp : look m (.ktp ds) = .ktp ds := (rfl)
@[simp] theorem look_dctT (kk : List (List DKey)) : look m (.dctT kk ds) = .dctT kk ds := (rfl)
@[simp] theorem look_glo : look m (.glo s) = .glo s := (rfl)
@[simp] theorem lookC_lst : lookC r (some (.lst ds)) = .lst ds := (rfl)
@[simp] theorem lookC_dct : lookC r (some (.dct ks ds)) = .dct ks ds := (rfl)
@[simp] theorem lookC_dctT (kk : List (List DKey)) : lookC r (some (.dctT kk ds)) = .dctT kk ds := (rfl)
@[simp] theorem lookC_ins : lookC r (some (.ins s ss ds)) = .ins s ss ds := (rfl)
/-! operators -/
@[simp] theorem addD_ii : addD (.int i) (.int j) m = .ok (.int (i + j)) m := (rfl)
@[simp] theorem addD_ss : addD (.str x) (.str y) m = if x.length + y.length ≤ SZ then .ok (.str (x ++ y)) m else .bad := (rfl)
@[simp] theorem addD_ll : addD (.lst ds) (.lst es) m = if ds.length + es.length ≤ SZ then .ok (.lst (ds ++ es)) m else .bad := (rfl)
@[simp] theorem addD_tt : addD (.tup ds) (.tup es) m = if ds.length + es.length ≤ SZ then .ok (.tup (ds ++ es)) m else .bad := (rfl)
@[simp] theorem subD_ii : subD (.int i) (.int j) m = .ok (.int (i - j)) m := (rfl)
@[simp] theorem mulD_ii : mulD (.int i) (.int j) m = if small64 i || small64 j then .ok (.int (i * j)) m else .bad := (rfl)
@[simp] theorem mulD_li : mulD (.lst ds) (.int k) m = if 0 ≤ k ∧ k < 2 ^ 63 ∧ ds.length * k.toNat ≤ SZ then .ok (.lst (List.replicate k.toNat ds).flatten) m else .bad := (rfl)
@[simp] theorem mulD_si : mulD (.str x) (.int k) m = if 0 ≤ k ∧ k < 2 ^ 63 ∧ x.length * k.toNat ≤ SZ then .ok (.str (List.replicate k.toNat x).flatten) m else .bad := (rfl)
@[simp] theorem fdivD_ii : fdivD (.int i) (.int j) m = if 0 < j ∧ j.natAbs.log2 < 9000 then .ok (.int (i / j)) m else .bad := (rfl)
@[simp] theorem modD_ii : modD (.int i) (.int j) m = if 0 < j then .ok (.int (i % j)) m else .bad := (rfl)
@[simp] theorem powD_ii : powD (.int i) (.int j) m = if 0 ≤ j ∧ j ≤ 1000000 ∧ i.natAbs < 2 ^ 64 then .ok (.int (i ^ j.toNat)) m else .bad := (rfl)
@[simp] theorem cmpI_ii (f : Int → Int → Bool) (g : Cs → Cs → Bool) : cmpI f g (.int i) (.int j) m = .ok (.bl (f i j)) m := (rfl)
@[simp] theorem cmpI_ss (f : Int → Int → Bool) (g : Cs → Cs → Bool) : cmpI f g (.str x) (.str y) m = .ok (.bl (g x y)) m := (rfl)
@[simp] theorem isD_n : isD d .non m = .ok (.bl d.isN) m := by cases d <;> rfl
@[simp] theorem isntD_n : isntD d .non m = .ok (.bl (!d.isN)) m := by cases d <;> rfl
@[simp] theorem isN_non : D.isN .non = true := (rfl)
@[simp] theorem isN_bl : D.isN (.bl b) = false := (rfl)
@[simp] theorem isN_int : D.isN (.int i) = false := (rfl)
@[simp] theorem isN_str : D.isN (.str x) = false := (rfl)
@[simp] theorem isN_tup : D.isN (.tup ds) = false := (rfl)
@[simp] theorem isN_lst : D.isN (.lst ds) = false := (rfl)
@[simp] theorem isN_ins : D.isN (.ins s ss ds) = false := (rfl)
@[simp] theorem isN_ref : D.isN (.ref r) = false := (rfl)
@[simp] theorem negD_i : negD (.int i) m = .ok (.int (-i)) m := (rfl)
@[simp] theorem boolD_b : boolD (.bl b) m = .ok b m := (rfl)
/-! truth -/
def tstK : D → Mu → Rs Bool
  | .non, m => .ok false m
  | .bl b, m => .ok b m
  | .int i, m => .ok (i != 0) m
  | .str x, m => if x.length ≤ SZ then .ok (!x.isEmpty) m else .bad
  | .lst ds, m => .ok (!ds.isEmpty) m
  | .tup ds, m => .ok (!ds.isEmpty) m
  | .scr ns, m => .ok (!ns.isEmpty) m
  | _, _ => .bad
@[simp] theorem tstD_k : tstD d m = tstK (look m d) m := by
  unfold tstD truOf
  generalize look m d = e
  cases e with
  | str x => unfold tstK; by_cases h : x.length ≤ SZ <;> simp [h]
  | _ => rfl
@[simp] theorem tstK_non : tstK .non m = .ok false m := (rfl)
@[simp] theorem tstK_bl : tstK (.bl b) m = .ok b m := (rfl)
@[simp] theorem tstK_int : tstK (.int i) m = .ok (i != 0) m := (rfl)
@[simp] theorem tstK_str : tstK (.str x) m = if x.length ≤ SZ then .ok (!x.isEmpty) m else .bad := (rfl)
@[simp] theorem tstK_lst : tstK (.lst ds) m = .ok (!ds.isEmpty) m := (rfl)
@[simp] theorem tstK_tup : tstK (.tup ds) m = .ok (!ds.isEmpty) m := (rfl)
/-! parts -/
def oOk : Option D → Mu → Rs D
  | some d, m => .ok d m
  | none, _ => .bad
@[simp] theorem oOk_some : oOk (some d) m = .ok d m := (rfl)
@[simp] theorem oOk_none : oOk none m = .bad := (rfl)
def idxK : D → D → Mu → Rs D
  | .lst ds, .int i, m => oOk (atI ds i) m
  | .tup ds, .int i, m => oOk (atI ds i) m
  | .scr ns, .int i, m => oOk ((atI ns i).map D.int) m
  | .str x, .int i, m => if x.length ≤ SZ then oOk ((atI x i).map fun c => .str [c]) m else .bad
  | .dct ks vs, i, m => match dkey i with | some k => oOk (lkp ks vs k) m | none => .bad
  | .ktp ds, .int i, m => oOk (atI ds i) m
  | .dctT ks vs, i, m => match dkeyT i with | some k => oOk (lkpT ks vs k) m | none => .bad
  | _, _, _ => .bad
@[simp] theorem idxD_k : idxD d e m = idxK (look m d) e m := by
  unfold idxD
  generalize look m d = q
  cases q with
  | lst ds =>
    cases e with
    | int i => unfold idxK; dsimp only; cases atI ds i <;> rfl
    | _ => rfl
  | tup ds =>
    cases e with
    | int i => unfold idxK; dsimp only; cases atI ds i <;> rfl
    | _ => rfl
  | scr ds =>
    cases e with
    | int i => unfold idxK; dsimp only; cases atI ds i <;> rfl
    | _ => rfl
  | str ds =>
    cases e with
    | int i =>
      unfold idxK
      dsimp only
      by_cases h : ds.length ≤ SZ
      · rw [if_pos h, if_pos h]; cases atI ds i <;> rfl
      · rw [if_neg h, if_neg h]
    | _ => rfl
  | dct ks vs =>
    unfold idxK
    dsimp only
    cases dkey e with
    | none => rfl
    | some k => dsimp only; cases lkp ks vs k <;> rfl
  | ktp ds =>
    cases e with
    | int i => unfold idxK; dsimp only; cases atI ds i <;> rfl
    | _ => rfl
  | dctT ks vs =>
    unfold idxK
    dsimp only
    cases dkeyT e with
    | none => rfl
    | some k => dsimp only; cases lkpT ks vs k <;> rfl
  | _ => rfl
@[simp] theorem idxK_ktp : idxK (.ktp ds) (.int i) m = oOk (atI ds i) m := (rfl)
@[simp] theorem idxK_dT (kk : List (List DKey)) : idxK (.dctT kk ds) e m = match dkeyT e with | some k => oOk (lkpT kk ds k) m | none => .bad := (rfl)
@[simp] theorem idxK_l : idxK (.lst ds) (.int i) m = oOk (atI ds i) m := (rfl)
@[simp] theorem idxK_t : idxK (.tup ds) (.int i) m = oOk (atI ds i) m := (rfl)
@[simp] theorem idxK_scr : idxK (.scr ns) (.int i) m = oOk ((atI ns i).map D.int) m := (rfl)
@[simp] theorem idxK_str : idxK (.str x) (.int i) m = if x.length ≤ SZ then oOk ((atI x i).map fun c => .str [c]) m else .bad := (rfl)
@[simp] theorem idxK_d : idxK (.dct ks ds) e m = match dkey e with | some k => oOk (lkp ks ds k) m | none => .bad := (rfl)
@[simp] theorem dkey_i : dkey (.int i) = some (.i i) := (rfl)
@[simp] theorem dkey_s : dkey (.str x) = some (.s x) := (rfl)
@[simp] theorem lkp_cons (k q : DKey) : lkp (k :: ks) (d :: ds) q = if k = q then some d else lkp ks ds q := (rfl)
@[simp] theorem lkp_nil (q : DKey) : lkp [] ds q = none := (rfl)
@[simp] theorem partD_i : partD (.int i) m = .ok (some i) m := (rfl)
def slcK (lo hi : Option Int) (m : Mu) : D → Rs D
  | .lst ds => .ok (.lst (cutL ds lo hi)) m
  | .tup ds => .ok (.tup (cutL ds lo hi)) m
  | .scr ns => .ok (.lst ((cutL ns lo hi).map D.int)) m
  | .str x => if x.length ≤ SZ then .ok (.str (cutL x lo hi)) m else .bad
  | _ => .bad
@[simp] theorem slcD_k (lo hi : Option Int) : slcD d lo hi m = slcK lo hi m (look m d) := by
  unfold slcD slcK
  try dsimp only
  all_goals
    generalize look m d = q
    cases q <;> rfl
@[simp] theorem slcK_l (lo hi : Option Int) : slcK lo hi m (.lst ds) = .ok (.lst (cutL ds lo hi)) m := (rfl)
@[simp] theorem slcK_t (lo hi : Option Int) : slcK lo hi m (.tup ds) = .ok (.tup (cutL ds lo hi)) m := (rfl)
@[simp] theorem slcK_scr (lo hi : Option Int) : slcK lo hi m (.scr ns) = .ok (.lst ((cutL ns lo hi).map D.int)) m := (rfl)
@[simp] theorem slcK_str (lo hi : Option Int) : slcK lo hi m (.str x) = if x.length ≤ SZ then .ok (.str (cutL x lo hi)) m else .bad := (rfl)
def revK (m : Mu) : D → Rs D
  | .lst ds => .ok (.lst ds.reverse) m
  | .str x => if x.length ≤ SZ then .ok (.str x.reverse) m else .bad
  | _ => .bad
@[simp] theorem revD_k : revD d m = revK m (look m d) := by
  unfold revD revK
  try dsimp only
  all_goals
    generalize look m d = q
    cases q <;> rfl
@[simp] theorem revK_l : revK m (.lst ds) = .ok (.lst ds.reverse) m := (rfl)
@[simp] theorem revK_s : revK m (.str x) = if x.length ≤ SZ then .ok (.str x.reverse) m else .bad := (rfl)
/-! writing -/
def setC (r : Nat) (i d : D) (m : Mu) : Option Cell → Rs Unit
  | some (.lst ds) => match i with
    | .int k => match ixN ds.length k with | some j => .ok () (m.set r (.lst (ds.set j d))) | none => .bad
    | _ => .bad
  | some (.dct ks vs) => match dkey i with
    | some k => if ks.length < SZ ∧ ks.Nodup then .ok () (m.set r (.dct (dput ks vs k d).1 (dput ks vs k d).2)) else .bad
    | none => .bad
  | some (.dctT ks vs) => match dkeyT i with
    | some k => if ks.length < SZ ∧ ks.Nodup then .ok () (m.set r (.dctT (dputT ks vs k d).1 (dputT ks vs k d).2)) else .bad
    | none => .bad
  | _ => .bad
@[simp] theorem setD_ref : setD (.ref r) e d m = setC r e d m m[r]? := by
  unfold setD setC
  try dsimp only
  all_goals
    generalize m[r]? = q
    cases q with
    | none => rfl
    | some c => cases c <;> rfl
@[simp] theorem setC_l : setC r (.int k) d m (some (.lst ds)) = match ixN ds.length k with | some j => .ok () (m.set r (.lst (ds.set j d))) | none => .bad := (rfl)
@[simp] theorem setC_d : setC r e d m (some (.dct ks ds)) = match dkey e with
    | some k => if ks.length < SZ ∧ ks.Nodup then .ok () (m.set r (.dct (dput ks ds k d).1 (dput ks ds k d).2)) else .bad
    | none => .bad := (rfl)
@[simp] theorem setC_dT (kk : List (List DKey)) : setC r e d m (some (.dctT kk ds)) = match dkeyT e with
    | some k => if kk.length < SZ ∧ kk.Nodup then .ok () (m.set r (.dctT (dputT kk ds k d).1 (dputT kk ds k d).2)) else .bad
    | none => .bad := (rfl)
def frzC (r : Nat) (m : Mu) : Option Cell → Rs D
  | some (.lst ds) => .ok (.lst ds) (m.set r .dead)
  | some (.dct ks ds) => .ok (.dct ks ds) (m.set r .dead)
  | some (.ins c ns ds) => .ok (.ins c ns ds) (m.set r .dead)
  | _ => .bad
@[simp] theorem frzD_c : frzD r m = frzC r m m[r]? := by
  unfold frzD frzC
  generalize m[r]? = q
  cases q with
  | none => rfl
  | some c => cases c <;> rfl
@[simp] theorem frz2D_ref : frz2D (.ref r) m = frzD r m := (rfl)
@[simp] theorem frz2D_lst : frz2D (.lst ds) m = .ok (.lst ds) m := (rfl)
@[simp] theorem frz2D_tup : frz2D (.tup ds) m = .ok (.tup ds) m := (rfl)
@[simp] theorem frzC_l : frzC r m (some (.lst ds)) = .ok (.lst ds) (m.set r .dead) := (rfl)
@[simp] theorem frzC_d : frzC r m (some (.dct ks ds)) = .ok (.dct ks ds) (m.set r .dead) := (rfl)
@[simp] theorem frzC_i : frzC r m (some (.ins s ss ds)) = .ok (.ins s ss ds) (m.set r .dead) := (rfl)
/-! attributes -/
@[simp] theorem lkf_cons (f n : String) : lkf (n :: ss) (d :: ds) f = if n = f then some d else lkf ss ds f := (rfl)
@[simp] theorem putf_nil (f : String) : putf [] [] f d = ([f], [d]) := (rfl)
@[simp] theorem putf_cons (f n : String) : putf (n :: ss) (e :: ds) f d = if n = f then (n :: ss, d :: ds) else (n :: (putf ss ds f d).1, e :: (putf ss ds f d).2) := (rfl)
def fldK (cs : List String) (f : String) (m : Mu) : D → Rs D
  | .ins c ns ds => if c ∈ cs then oOk (lkf ns ds f) m else .bad
  | _ => .bad
@[simp] theorem fldD_k (cs : List String) (f : String) : fldD cs f d m = fldK cs f m (look m d) := by
  unfold fldD fldK
  generalize look m d = q
  cases q with
  | ins c ns ds =>
    dsimp only
    by_cases h : c ∈ cs
    · rw [if_pos h, if_pos h]; cases lkf ns ds f <;> rfl
    · rw [if_neg h, if_neg h]
  | _ => rfl
@[simp] theorem fldK_i (cs : List String) (f c : String) : fldK cs f m (.ins c ss ds) = if c ∈ cs then oOk (lkf ss ds f) m else .bad := (rfl)
def setFC (cs : List String) (f : String) (r : Nat) (d : D) (m : Mu) : Option Cell → Rs Unit
  | some (.ins c ns ds) => if c ∈ cs ∧ ns.length < 900 then .ok () (m.set r (.ins c (putf ns ds f d).1 (putf ns ds f d).2)) else .bad
  | _ => .bad
@[simp] theorem setFD_ref (cs : List String) (f : String) : setFD cs f (.ref r) d m = setFC cs f r d m m[r]? := by
  unfold setFD setFC
  try dsimp only
  all_goals
    generalize m[r]? = q
    cases q with
    | none => rfl
    | some c => cases c <;> rfl
@[simp] theorem setFC_i (cs : List String) (f c : String) : setFC cs f r d m (some (.ins c ss ds)) = if c ∈ cs ∧ ss.length < 900 then .ok () (m.set r (.ins c (putf ss ds f d).1 (putf ss ds f d).2)) else .bad := (rfl)
def propK (tbl : List (String × FnD)) (d : D) (m : Mu) : D → Rs D
  | .ins c _ _ => match tbl.lookup c with
    | some F => (F [d] m).nx fun d m => .ok d m
    | none => .bad
  | _ => .bad
@[simp] theorem propD_k (tbl : List (String × FnD)) : propD tbl d m = propK tbl d m (look m d) := by
  unfold propD propK
  try dsimp only
  all_goals
    generalize look m d = q
    cases q <;> rfl
@[simp] theorem propK_i (tbl : List (String × FnD)) (c : String) : propK tbl d m (.ins c ss ds) = match tbl.lookup c with
    | some F => (F [d] m).nx fun d m => .ok d m
    | none => .bad := (rfl)
/-! built-in functions -/
def lenK (m : Mu) : D → Rs D
  | .str x => if x.length ≤ SZ then .ok (.int x.length) m else .bad
  | .lst ds => .ok (.int ds.length) m
  | .tup ds => .ok (.int ds.length) m
  | .scr ns => .ok (.int ns.length) m
  | .dct ks _ => .ok (.int ks.length) m
  | _ => .bad
@[simp] theorem lenD_k : lenD [d] m = lenK m (look m d) := by
  unfold lenD lenK
  try dsimp only
  all_goals
    generalize look m d = q
    cases q <;> rfl
@[simp] theorem lenK_s : lenK m (.str x) = if x.length ≤ SZ then .ok (.int x.length) m else .bad := (rfl)
@[simp] theorem lenK_l : lenK m (.lst ds) = .ok (.int ds.length) m := (rfl)
@[simp] theorem lenK_t : lenK m (.tup ds) = .ok (.int ds.length) m := (rfl)
@[simp] theorem lenK_scr : lenK m (.scr ns) = .ok (.int ns.length) m := (rfl)
@[simp] theorem lenK_d : lenK m (.dct ks ds) = .ok (.int ks.length) m := (rfl)
@[simp] theorem absD_i : absD [.int i] m = .ok (.int (if i < 0 then -i else i)) m := (rfl)
@[simp] theorem intD_i : intD [.int i] m = .ok (.int i) m := (rfl)
@[simp] theorem intD_b : intD [.bl b] m = .ok (.int (if b then 1 else 0)) m := (rfl)
@[simp] theorem strD_i : strD [.int i] m = if i.natAbs.log2 < 1920 then .ok (.str (strIntC i)) m else .bad := (rfl)
@[simp] theorem strD_s : strD [.str x] m = .ok (.str x) m := (rfl)
def tupleK (m : Mu) : D → Rs D
  | .lst ds => .ok (.tup ds) m
  | .tup ds => .ok (.tup ds) m
  | .scr ns => .ok (.tup (ns.map D.int)) m
  | _ => .bad
@[simp] theorem tupleD_k : tupleD [d] m = tupleK m (look m d) := by
  unfold tupleD tupleK
  try dsimp only
  all_goals
    generalize look m d = q
    cases q <;> rfl
@[simp] theorem tupleK_l : tupleK m (.lst ds) = .ok (.tup ds) m := (rfl)
@[simp] theorem tupleK_t : tupleK m (.tup ds) = .ok (.tup ds) m := (rfl)
def seqK : D → Option (List D)
  | .lst ds => some ds
  | .tup ds => some ds
  | .scr ns => some (ns.map D.int)
  | _ => none
@[simp] theorem seqOf_k : seqOf m d = seqK (look m d) := by
  unfold seqOf seqK
  try dsimp only
  all_goals
    generalize look m d = q
    cases q <;> rfl
@[simp] theorem seqK_l : seqK (.lst ds) = some ds := (rfl)
@[simp] theorem seqK_t : seqK (.tup ds) = some ds := (rfl)
@[simp] theorem seqK_scr : seqK (.scr ns) = some (ns.map D.int) := (rfl)
def lstK : D → Option (List D)
  | .lst ds => some ds
  | .scr ns => some (ns.map D.int)
  | _ => none
@[simp] theorem lstOf_k : lstOf m d = lstK (look m d) := by
  unfold lstOf lstK
  try dsimp only
  all_goals
    generalize look m d = q
    cases q <;> rfl
@[simp] theorem lstK_l : lstK (.lst ds) = some ds := (rfl)
@[simp] theorem lstK_scr : lstK (.scr ns) = some (ns.map D.int) := (rfl)
@[simp] theorem listF_k : listF [d] m = match seqOf m d with | some ds => .ok (.lst ds) m | none => .bad := (rfl)
@[simp] theorem listM_k : listM [d] m = match seqOf m d with | some ds => .ok (.ref m.length) (m ++ [.lst ds]) | none => .bad := (rfl)
@[simp] theorem sumD_k : sumD [d] m = match (lstOf m d).bind intsOf with | some ns => .ok (.int ns.sum) m | none => .bad := (rfl)
@[simp] theorem allD_k : allD [d] m = match (lstOf m d).bind blsOf with | some bs => .ok (.bl (bs.all id)) m | none => .bad := (rfl)
@[simp] theorem anyD_k : anyD [d] m = match (lstOf m d).bind blsOf with | some bs => .ok (.bl (bs.any id)) m | none => .bad := (rfl)
@[simp] theorem itemsF_l : itemsF (.lst ds) = some ds := (rfl)
@[simp] theorem itemsF_t : itemsF (.tup ds) = some ds := (rfl)
@[simp] theorem itemsF_scr : itemsF (.scr ns) = some (ns.map D.int) := (rfl)
@[simp] theorem itemsF_s : itemsF (.str x) = some (x.map fun c => .str [c]) := (rfl)
@[simp] theorem rg1D_i : rg1D [.int j] m = if small62 j then .ok (intsFrom 0 j.toNat) m else .bad := (rfl)
@[simp] theorem rg2D_ii : rg2D [.int i, .int j] m = if small62 i && small62 j then .ok (intsFrom i (j - i).toNat) m else .bad := (rfl)
@[simp] theorem enumD_k : enumD [d] m = match itemsF d with | some xs => .ok (xs.zipIdx.map fun p => .tup [.int (p.2 : Nat), p.1]) m | none => .bad := (rfl)
@[simp] theorem zipD_k : zipD [d, e] m = match itemsF d, itemsF e with | some xs, some ys => .ok (List.zipWith (fun a b => .tup [a, b]) xs ys) m | _, _ => .bad := (rfl)
def kindK : D → Option String
  | .non => some "NoneType"
  | .bl _ => some "bool"
  | .int _ => some "int"
  | .str _ => some "str"
  | .tup _ => some "tuple"
  | .lst _ => some "list"
  | .scr _ => some "list"
  | .dct _ _ => some "dict"
  | _ => none
theorem kindD_k : kindD m d = kindK (look m d) := by
  unfold kindD kindK
  try dsimp only
  all_goals
    generalize look m d = q
    cases q <;> rfl
def isK (cs : List String) (m : Mu) (c : D) : D → Rs D
  | .ins n _ _ => match c with
    | .ty b => if n ∈ cs ∧ b ∈ ["int", "str", "bool", "tuple", "list", "dict"] then .ok (.bl false) m else .bad
    | .glo c' => if c' ∈ cs ∧ n ∈ cs then .ok (.bl (decide (n = c'))) m else .bad
    | _ => .bad
  | q => match kindK q with
    | some a => match c with
      | .ty b => match isBB a b with | some r => .ok (.bl r) m | none => .bad
      | .glo c' => if c' ∈ cs then .ok (.bl false) m else .bad
      | _ => .bad
    | none => .bad
@[simp] theorem isinstD_k (cs : List String) : isinstD cs [d, e] m = isK cs m e (look m d) := by
  unfold isinstD isK
  simp only [kindD_k]
  cases e with
  | ty b =>
    dsimp only
    generalize look m d = q
    cases q <;> rfl
  | glo c' =>
    dsimp only
    generalize look m d = q
    cases q with
    | ins n ss vs =>
      dsimp only [kindK]
      by_cases h : c' ∈ cs
      · by_cases h2 : n ∈ cs
        · rw [if_pos h, if_pos h2, if_pos ⟨h, h2⟩]
        · rw [if_pos h, if_neg h2, if_neg (fun z => h2 z.2)]
      · rw [if_neg h, if_neg (fun z => h z.1)]
    | _ => first | rfl | (dsimp only [kindK]; by_cases h : c' ∈ cs <;> simp [h]) | (by_cases h : c' ∈ cs <;> simp [h, kindK])
  | _ => generalize look m d = q; cases q <;> rfl
theorem isBB_int (a : String) : isBB a "int" = some (a = "int" || a = "bool") := by simp [isBB]
@[simp] theorem isK_int_int (cs : List String) : isK cs m (.ty "int") (.int i) = .ok (.bl true) m := by simp [isK, kindK, isBB]
@[simp] theorem isK_int_bool (cs : List String) : isK cs m (.ty "bool") (.int i) = .ok (.bl false) m := by simp [isK, kindK, isBB]
@[simp] theorem isK_str_str (cs : List String) : isK cs m (.ty "str") (.str x) = .ok (.bl true) m := by simp [isK, kindK, isBB]
@[simp] theorem isK_tup_tup (cs : List String) : isK cs m (.ty "tuple") (.tup ds) = .ok (.bl true) m := by simp [isK, kindK, isBB]
@[simp] theorem isK_ins (cs : List String) (n c : String) : isK cs m (.glo c) (.ins n ss ds) = if c ∈ cs ∧ n ∈ cs then .ok (.bl (decide (n = c))) m else .bad := (rfl)
/-! methods -/
def appC (r : Nat) (d : D) (m : Mu) : Option Cell → Rs D
  | some (.lst xs) => if xs.length < SZ then .ok .non (m.set r (.lst (xs ++ [d]))) else .bad
  | _ => .bad
@[simp] theorem appendM_ref : appendM (.ref r) [d] m = appC r d m m[r]? := by
  unfold appendM appC
  try dsimp only
  all_goals
    generalize m[r]? = q
    cases q with
    | none => rfl
    | some c => cases c <;> rfl
@[simp] theorem appC_l : appC r d m (some (.lst ds)) = if ds.length < SZ then .ok .non (m.set r (.lst (ds ++ [d]))) else .bad := (rfl)
@[simp] theorem joinM_s : joinM (.str x) [d] m = match (seqOf m d).bind strsOf with
    | some ys => if (ys.map (·.length)).sum + ys.length * x.length ≤ SZ then .ok (.str (joinC x ys)) m else .bad
    | none => .bad := (rfl)
@[simp] theorem splitM_ss : splitM (.str x) [.str y] m = if y.length ≠ 0 ∧ x.length + 2 ≤ SZ then .ok (.lst ((splitC x y).map D.str)) m else .bad := (rfl)
@[simp] theorem sindexM_ss : sindexM (.str x) [.str y] m = match indexC x y with | some i => .ok (.int (i : Nat)) m | none => .bad := (rfl)
def tyK (T : String) : D → Bool
  | .str _ => T = "str"
  | .lst _ => T = "list"
  | .scr _ => T = "list"
  | _ => false
@[simp] theorem tyD_k (T : String) : tyD T m d = tyK T (look m d) := by
  unfold tyD tyK
  try dsimp only
  all_goals
    generalize look m d = q
    cases q <;> rfl
@[simp] theorem tyK_s : tyK "str" (.str x) = true := (rfl)
@[simp] theorem tyK_l : tyK "list" (.lst ds) = true := (rfl)
def isDk : D → Bool
  | .dct _ _ => true
  | .dctT _ _ => true
  | _ => false
@[simp] theorem isDct_k : isDct m d = isDk (look m d) := by
  unfold isDct isDk
  try dsimp only
  all_goals
    generalize look m d = q
    cases q <;> rfl
@[simp] theorem isDk_dT (kk : List (List DKey)) : isDk (.dctT kk ds) = true := (rfl)
@[simp] theorem isDk_d : isDk (.dct ks ds) = true := (rfl)
def getK (k d : D) (m : Mu) : D → Rs D
  | .dct ks ds => match dkey k with
    | some k => .ok ((lkp ks ds k).getD d) m
    | none => .bad
  | .dctT ks ds => match dkeyT k with
    | some k => .ok ((lkpT ks ds k).getD d) m
    | none => .bad
  | _ => .bad
@[simp] theorem get2D_k (q : D) : get2D q e d m = getK e d m (look m q) := by
  unfold get2D getK
  generalize look m q = z
  cases z with
  | dct ks ds =>
    dsimp only
    cases dkey e with
    | none => rfl
    | some k => dsimp only; cases lkp ks ds k <;> rfl
  | dctT ks ds =>
    dsimp only
    cases dkeyT e with
    | none => rfl
    | some k => dsimp only; cases lkpT ks ds k <;> rfl
  | _ => rfl
@[simp] theorem getK_dT (kk : List (List DKey)) : getK e d m (.dctT kk ds) = match dkeyT e with
    | some k => .ok ((lkpT kk ds k).getD d) m
    | none => .bad := (rfl)
@[simp] theorem getK_d : getK e d m (.dct ks ds) = match dkey e with
    | some k => .ok ((lkp ks ds k).getD d) m
    | none => .bad := (rfl)
@[simp] theorem kgetD_i : kgetD ks ds (.int i) m = oOk (lkp ks ds (.i i)) m := by unfold kgetD; simp only [dkey_i]; cases lkp ks ds (.i i) <;> rfl
@[simp] theorem kgetD_s : kgetD ks ds (.str x) m = oOk (lkp ks ds (.s x)) m := by unfold kgetD; simp only [dkey_s]; cases lkp ks ds (.s x) <;> rfl
@[simp] theorem kinD_s : kinD ks ds (.str x) m = .ok (.bl (lkp ks ds (.s x)).isSome) m := (rfl)
/-! in -/
def inK1 (m : Mu) (x : D) : D → Option Bool
  | .str z => match look m x with
    | .str [c] => some (decide (c ∈ z))
    | .str x => some (occC z x)
    | _ => none
  | .lst ds => match (look m x).pd, D.pds ds with
    | some a, some b => if a ≤ 50 ∧ b ≤ 50 then some (ds.any fun z => D.eq z (look m x)) else none
    | _, _ => none
  | .tup ds => match (look m x).pd, D.pds ds with
    | some a, some b => if a ≤ 50 ∧ b ≤ 50 then some (ds.any fun z => D.eq z (look m x)) else none
    | _, _ => none
  | .scr ns => match look m x with
    | .int i => some (decide (i ∈ ns))
    | _ => none
  | .dct ks ds => match dkey x with
    | some k => some (lkp ks ds k).isSome
    | none => none
  | .dctT ks ds => match dkeyT x with
    | some k => some (lkpT ks ds k).isSome
    | none => none
  | _ => none
theorem inB_k : inB d e m = inK1 m d (look m e) := by
  unfold inB inK1
  try dsimp only
  all_goals
    generalize look m e = q
    cases q <;> rfl
def bOk (m : Mu) : Option Bool → Rs D
  | some b => .ok (.bl b) m
  | none => .bad
@[simp] theorem bOk_some : bOk m (some b) = .ok (.bl b) m := (rfl)
@[simp] theorem inD_k : inD d e m = bOk m (inK1 m d (look m e)) := by
  unfold inD bOk
  rw [inB_k]
  all_goals
    cases inK1 m d (look m e) <;> rfl
@[simp] theorem notInD_k : notInD d e m = bOk m ((inK1 m d (look m e)).map (!·)) := by
  unfold notInD bOk
  rw [inB_k]
  cases inK1 m d (look m e) <;> rfl
@[simp] theorem inK1_sc (c : Nat) : inK1 m (.str [c]) (.str y) = some (decide (c ∈ y)) := (rfl)
@[simp] theorem inK1_l (h : ∀ r, d ≠ .ref r) : inK1 m d (.lst ds) = match d.pd, D.pds ds with
    | some a, some b => if a ≤ 50 ∧ b ≤ 50 then some (ds.any fun z => D.eq z d) else none
    | _, _ => none := by
  have : look m d = d := by cases d <;> first | rfl | exact absurd rfl (h _)
  unfold inK1
  rw [this]
@[simp] theorem inK1_t (h : ∀ r, d ≠ .ref r) : inK1 m d (.tup ds) = match d.pd, D.pds ds with
    | some a, some b => if a ≤ 50 ∧ b ≤ 50 then some (ds.any fun z => D.eq z d) else none
    | _, _ => none := by
  have : look m d = d := by cases d <;> first | rfl | exact absurd rfl (h _)
  unfold inK1
  rw [this]
/-! equality -/
@[simp] theorem eqD_k : eqD d e m = bOk m (eqB m d e) := by unfold eqD bOk; cases eqB m d e <;> rfl
@[simp] theorem neD_k : neD d e m = bOk m ((eqB m d e).map (!·)) := by unfold neD bOk; cases eqB m d e <;> rfl
theorem eqB_of_pd {a b : Nat} (h1 : (look m d).pd = some a) (h2 : (look m e).pd = some b) (ha : a ≤ 60) (hb : b ≤ 60) : eqB m d e = some (D.eq (look m d) (look m e)) := by
  unfold eqB
  rw [h1, h2]
  simp [ha, hb]
@[simp] theorem eqB_ii : eqB m (.int i) (.int j) = some (i == j) := (rfl)
theorem eqB_ss (hx : x.all (· < 1114112) = true) (hy : y.all (· < 1114112) = true) : eqB m (.str x) (.str y) = some (x == y) := by
  unfold eqB
  simp only [look_str, D.pd, hx, hy, if_pos, D.eq]
  simp
end
@[simp] theorem atI_lit {α : Type} (xs : List α) (k : Nat) : atI xs (no_index (@OfNat.ofNat Int k _)) = xs[k]? := by
  unfold atI ixN
  have h0 : (0 : Int) ≤ (@OfNat.ofNat Int k _) := Int.natCast_nonneg k
  rw [if_pos h0]
  have e : (@OfNat.ofNat Int k _ : Int) = (k : Int) := (rfl)
  rw [e]
  by_cases h : (k : Int) < (xs.length : Int)
  · rw [if_pos h]; rfl
  · rw [if_neg h]
    have : xs.length ≤ k := by omega
    simp [List.getElem?_eq_none this]
@[simp] theorem atI_nat {α : Type} (xs : List α) (k : Nat) : atI xs (k : Int) = xs[k]? := atI_lit xs k
theorem atI_of {α : Type} (xs : List α) (i : Int) (h : 0 ≤ i) : atI xs i = xs[i.toNat]? := by
  have : i = (i.toNat : Int) := by omega
  rw [this, atI_nat]
  rw [← this]
@[simp] theorem ixN_lit (n k : Nat) : ixN n (no_index (@OfNat.ofNat Int k _)) = if k < n then some k else none := by
  unfold ixN
  have h0 : (0 : Int) ≤ (@OfNat.ofNat Int k _) := Int.natCast_nonneg k
  rw [if_pos h0]
  have e : (@OfNat.ofNat Int k _ : Int) = (k : Int) := (rfl)
  rw [e]
  by_cases h : k < n
  · rw [if_pos h, if_pos (by omega)]; rfl
  · rw [if_neg h, if_neg (by omega)]
@[simp] theorem ixN_nat (n k : Nat) : ixN n (k : Int) = if k < n then some k else none := ixN_lit n k
theorem mu_lt {m : Mu} {r : Nat} {c : Cell} (h : m[r]? = some c) : r < m.length := (List.getElem?_eq_some_iff.mp h).1
theorem mu_set {m : Mu} {r : Nat} {c c' : Cell} (h : m[r]? = some c) : (m.set r c')[r]? = some c' := List.getElem?_set_self (mu_lt h)
/-- cells other than r stay -/
def Stay (r : Nat) (m m' : Mu) : Prop := ∀ i c, i ≠ r → m[i]? = some c → m'[i]? = some c
theorem Stay.refl {r : Nat} {m : Mu} : Stay r m m := fun _ _ _ h => h
theorem Stay.trans {r : Nat} {a b c : Mu} (h : Stay r a b) (h' : Stay r b c) : Stay r a c := fun i x n e => h' i x n (h i x n e)
theorem Stay.set {r : Nat} {m : Mu} {c : Cell} : Stay r m (m.set r c) := fun i x n e => by rw [List.getElem?_set_ne (Ne.symm n)]; exact e
theorem Stay.push {r : Nat} {m : Mu} {c : Cell} : Stay r m (m ++ [c]) := fun i x n e => by rw [List.getElem?_append_left (mu_lt e)]; exact e
@[simp] theorem dictP_k : dictP [d] m = match lstOf m d with
  | some ds => match mergeD ds [] [] with
    | some (ks, vs) => .ok (.dct ks vs) m
    | none => .bad
  | none => .bad := (rfl)
@[simp] theorem par3_ap (j l : Nat) : par3 i j l tr δ m = (tr δ m).thn δ fun ds m => match ds with | [x, y, z] => .next (((δ.set i (some x)).set j (some y)).set l (some z)) m | _ => .bad := (rfl)
end Dn
set_option linter.all false
/-! Reflections on integer vectors, words of them, roots: what holds of all of them (core Lean alone). -/
namespace Cox
abbrev Vec := Nat → Int
def sumTo : Nat → (Nat → Int) → Int
  | 0, _ => 0
  | n + 1, f => sumTo n f + f n
theorem sumTo_congr {f g : Nat → Int} : ∀ {n : Nat}, (∀ j, j < n → f j = g j) → sumTo n f = sumTo n g
  | 0, _ => rfl
  | n + 1, h => by
    simp only [sumTo]
    rw [sumTo_congr (n := n) fun j hj => h j (by omega), h n (by omega)]
theorem sumTo_zero : ∀ n : Nat, sumTo n (fun _ => 0) = 0
  | 0 => rfl
  | n + 1 => by simp only [sumTo, sumTo_zero n]; rfl
theorem sumTo_lin (a b : Int) (f g : Nat → Int) : ∀ n : Nat, sumTo n (fun j => a * f j + b * g j) = a * sumTo n f + b * sumTo n g
  | 0 => by simp [sumTo]
  | n + 1 => by
    simp only [sumTo, sumTo_lin a b f g n, Int.mul_add]
    omega
theorem sumTo_add (f g : Nat → Int) : ∀ n : Nat, sumTo n (fun j => f j + g j) = sumTo n f + sumTo n g
  | 0 => rfl
  | n + 1 => by simp only [sumTo, sumTo_add f g n]; omega
theorem sumTo_one {f : Nat → Int} {t : Nat} : ∀ {n : Nat}, t < n → sumTo n (fun j => if j = t then f j else 0) = f t
  | 0, h => by omega
  | n + 1, h => by
    simp only [sumTo]
    by_cases e : t = n
    · subst e
      have : sumTo t (fun j => if j = t then f j else 0) = sumTo t (fun _ => 0) := sumTo_congr fun j hj => if_neg (by omega)
      rw [this, sumTo_zero, if_pos rfl]
      omega
    · rw [sumTo_one (n := n) (by omega), if_neg (fun z => e z.symm)]
      omega
theorem sumTo_none {f : Nat → Int} {t : Nat} : ∀ {n : Nat}, n ≤ t → sumTo n (fun j => if j = t then f j else 0) = 0
  | 0, h => rfl
  | n + 1, h => by
    simp only [sumTo]
    rw [sumTo_none (n := n) (by omega), if_neg (by omega)]
    rfl
section
variable (n : Nat) (c : Nat → Nat → Int)
def lam (i : Nat) (v : Vec) : Int := sumTo n fun j => if j = i then 0 else c i j * v j
def refl (i : Nat) (v : Vec) : Vec := fun k => if k = i then lam n c i v - v i else v k
def act (w : List Nat) (v : Vec) : Vec := w.foldr (refl n c) v
def alpha (i : Nat) : Vec := fun k => if k = i then 1 else 0
def lin (a : Int) (v : Vec) (b : Int) (u : Vec) : Vec := fun k => a * v k + b * u k
end
section
variable {n : Nat} {c : Nat → Nat → Int}
@[simp] theorem act_nil (v : Vec) : act n c [] v = v := rfl
@[simp] theorem act_cons (i : Nat) (w : List Nat) (v : Vec) : act n c (i :: w) v = refl n c i (act n c w v) := rfl
theorem act_append (w u : List Nat) (v : Vec) : act n c (w ++ u) v = act n c w (act n c u v) := by
  unfold act
  rw [List.foldr_append]
theorem lam_lin (i : Nat) (a b : Int) (v u : Vec) : lam n c i (lin a v b u) = a * lam n c i v + b * lam n c i u := by
  unfold lam lin
  rw [← sumTo_lin]
  refine sumTo_congr fun j _ => ?_
  by_cases h : j = i
  · simp [h]
  · simp only [if_neg h]
    rw [Int.mul_add, Int.mul_left_comm, Int.mul_left_comm (c i j) b]
theorem refl_lin (i : Nat) (a b : Int) (v u : Vec) : refl n c i (lin a v b u) = lin a (refl n c i v) b (refl n c i u) := by
  funext k
  by_cases h : k = i
  · subst h
    simp only [refl, lin, if_pos]
    rw [lam_lin, Int.mul_sub, Int.mul_sub]
    omega
  · simp only [refl, lin, if_neg h]
theorem act_lin (w : List Nat) (a b : Int) (v u : Vec) : act n c w (lin a v b u) = lin a (act n c w v) b (act n c w u) := by
  induction w with
  | nil => rfl
  | cons i w ih => simp only [act_cons, ih, refl_lin]
theorem lam_congr {i : Nat} {v u : Vec} (h : ∀ k, k ≠ i → v k = u k) : lam n c i v = lam n c i u := by
  refine sumTo_congr fun j _ => ?_
  by_cases e : j = i
  · simp [e]
  · simp only [if_neg e, h j e]
theorem refl_refl (i : Nat) (v : Vec) : refl n c i (refl n c i v) = v := by
  funext k
  by_cases h : k = i
  · subst h
    have : lam n c k (refl n c k v) = lam n c k v := lam_congr fun j e => if_neg e
    simp only [refl, if_pos] at this ⊢
    rw [this]
    omega
  · simp only [refl, if_neg h]
theorem act_rev (w : List Nat) (v : Vec) : act n c w.reverse (act n c w v) = v := by
  induction w generalizing v with
  | nil => rfl
  | cons i w ih =>
    rw [List.reverse_cons, act_append, act_cons, act_cons, act_nil, refl_refl, ih]
theorem act_rev' (w : List Nat) (v : Vec) : act n c w (act n c w.reverse v) = v := by
  have := act_rev (n := n) (c := c) w.reverse v
  rwa [List.reverse_reverse] at this
theorem act_inj {w : List Nat} {v u : Vec} (h : act n c w v = act n c w u) : v = u := by
  rw [← act_rev (n := n) (c := c) w v, h, act_rev]
theorem lam_alpha {i j : Nat} (hj : j < n) (h : j ≠ i) : lam n c i (alpha j) = c i j := by
  unfold lam alpha
  have : sumTo n (fun k => if k = i then 0 else c i k * if k = j then 1 else 0) = sumTo n (fun k => if k = j then c i k else 0) := sumTo_congr fun k _ => by
    by_cases e : k = j
    · subst e; simp [h]
    · simp [e]
  rw [this, sumTo_one hj]
theorem lam_self {i : Nat} : lam n c i (alpha i) = 0 := by
  have h : lam n c i (alpha i) = sumTo n fun _ => 0 := by
    unfold lam alpha
    exact sumTo_congr fun k _ => by by_cases e : k = i <;> simp [e]
  rw [h, sumTo_zero]
theorem refl_alpha (i : Nat) : refl n c i (alpha i) = lin (-1) (alpha i) 0 (alpha i) := by
  funext k
  by_cases h : k = i
  · subst h
    simp only [refl, if_pos, lam_self, lin, alpha]
    omega
  · simp [refl, lin, alpha, h]
/-- words that do the same -/
def Eqv (n : Nat) (c : Nat → Nat → Int) (w u : List Nat) : Prop := ∀ v, act n c w v = act n c u v
theorem Eqv.rfl {w : List Nat} : Eqv n c w w := fun _ => Eq.refl _
theorem Eqv.symm {w u : List Nat} (h : Eqv n c w u) : Eqv n c u w := fun v => (h v).symm
theorem Eqv.trans {w u x : List Nat} (h : Eqv n c w u) (h' : Eqv n c u x) : Eqv n c w x := fun v => (h v).trans (h' v)
theorem Eqv.app {w u x y : List Nat} (h : Eqv n c w u) (h' : Eqv n c x y) : Eqv n c (w ++ x) (u ++ y) := fun v => by rw [act_append, act_append, h' v, h]
theorem Eqv.rev {w u : List Nat} (h : Eqv n c w u) : Eqv n c w.reverse u.reverse := fun v => by
  apply act_inj (w := w)
  rw [act_rev', h, act_rev']
theorem Eqv.sq {i : Nat} : Eqv n c [i, i] [] := fun v => refl_refl i v
theorem Eqv.cancel {w u x : List Nat} (h : Eqv n c (w ++ x) (u ++ x)) : Eqv n c w u := fun v => by
  have := h (act n c x.reverse v)
  rwa [act_append, act_append, act_rev'] at this
theorem Eqv.revl (w : List Nat) : Eqv n c (w.reverse ++ w) [] := fun v => by rw [act_append, act_rev]; rfl
theorem Eqv.revr (w : List Nat) : Eqv n c (w ++ w.reverse) [] := fun v => by rw [act_append, act_rev']; rfl
/-- letters of the mirrors -/
def Lt (n : Nat) (w : List Nat) : Prop := ∀ i ∈ w, i < n
theorem Lt.nil : Lt n [] := fun _ h => by simp at h
theorem Lt.app {w u : List Nat} (h : Lt n w) (h' : Lt n u) : Lt n (w ++ u) := fun i hi => (List.mem_append.mp hi).elim (h i) (h' i)
theorem Lt.one {i : Nat} (h : i < n) : Lt n [i] := fun j hj => by simp at hj; omega
theorem Lt.rev {w : List Nat} (h : Lt n w) : Lt n w.reverse := fun i hi => h i (List.mem_reverse.mp hi)
theorem Lt.left {w u : List Nat} (h : Lt n (w ++ u)) : Lt n w := fun i hi => h i (List.mem_append.mpr (.inl hi))
theorem Lt.right {w u : List Nat} (h : Lt n (w ++ u)) : Lt n u := fun i hi => h i (List.mem_append.mpr (.inr hi))
/-! the least length -/
theorem exists_min {P : Nat → Prop} (h : ∃ k, P k) : ∃ k, P k ∧ ∀ j, P j → k ≤ j := by
  obtain ⟨k, hk⟩ := h
  induction k using Nat.strongRecOn with
  | _ k ih =>
    by_cases z : ∃ j, j < k ∧ P j
    · obtain ⟨j, hj, pj⟩ := z
      exact ih j hj pj
    · exact ⟨k, hk, fun j pj => Nat.le_of_not_lt fun q => z ⟨j, q, pj⟩⟩
open Classical in
noncomputable def len (n : Nat) (c : Nat → Nat → Int) (w : List Nat) : Nat := if h : ∃ k, ∃ u, Lt n u ∧ Eqv n c w u ∧ u.length = k then Classical.choose (exists_min h) else 0
theorem len_spec {w : List Nat} (hw : Lt n w) : (∃ u, Lt n u ∧ Eqv n c w u ∧ u.length = len n c w) ∧ ∀ u, Lt n u → Eqv n c w u → len n c w ≤ u.length := by
  have h : ∃ k, ∃ u, Lt n u ∧ Eqv n c w u ∧ u.length = k := ⟨_, w, hw, .rfl, rfl⟩
  unfold len
  rw [dif_pos h]
  have := Classical.choose_spec (exists_min h)
  exact ⟨this.1, fun u l e => this.2 _ ⟨u, l, e, rfl⟩⟩
theorem len_le {w u : List Nat} (hw : Lt n w) (hu : Lt n u) (h : Eqv n c w u) : len n c w ≤ u.length := (len_spec hw).2 u hu h
theorem len_eqv {w u : List Nat} (hw : Lt n w) (hu : Lt n u) (h : Eqv n c w u) : len n c w = len n c u := by
  obtain ⟨x, lx, ex, hx⟩ := (len_spec (c := c) hw).1
  obtain ⟨y, ly, ey, hy⟩ := (len_spec (c := c) hu).1
  have h1 := len_le hw ly (h.trans ey)
  have h2 := len_le hu lx (h.symm.trans ex)
  omega
theorem len_app_le {w u : List Nat} (hw : Lt n w) (hu : Lt n u) : len n c (w ++ u) ≤ len n c w + u.length := by
  obtain ⟨x, lx, ex, hx⟩ := (len_spec (c := c) hw).1
  have := len_le (hw.app hu) (lx.app hu) (ex.app .rfl)
  rw [List.length_append] at this
  omega
theorem len_app1 {w : List Nat} {s : Nat} (hw : Lt n w) (hs : s < n) : len n c w ≤ len n c (w ++ [s]) + 1 := by
  have h1 := len_app_le (c := c) (hw.app (.one hs)) (Lt.one hs)
  have e : Eqv n c (w ++ [s] ++ [s]) w := by
    have : Eqv n c (w ++ [s, s]) (w ++ []) := .app .rfl .sq
    simpa using this
  rw [len_eqv ((hw.app (.one hs)).app (.one hs)) hw e] at h1
  simpa using h1
end
end Cox
set_option linter.all false
namespace Cox
/-! ### two letters -/
inductive OKp : Int → Int → Prop
  | a : OKp 0 0 | b : OKp 1 1 | c : OKp 1 2 | d : OKp 2 1 | e : OKp 1 3 | f : OKp 3 1 | g : OKp 2 2
def OKc (n : Nat) (c : Nat → Nat → Int) : Prop := ∀ i j, i < n → j < n → i ≠ j → OKp (c i j) (c j i)
def step (A B p q : Int) (b : Bool) (z : Int × Int) : Int × Int := if b = true then (A + p * z.2 - z.1, z.2) else (z.1, B + q * z.1 - z.2)
def run (A B p q : Int) (bs : List Bool) (z : Int × Int) : Int × Int := bs.foldr (step A B p q) z
def alt : Nat → Bool → List Bool
  | 0, _ => []
  | k + 1, b => alt k (!b) ++ [b]
theorem alt_length : ∀ (k : Nat) (b : Bool), (alt k b).length = k
  | 0, _ => rfl
  | k + 1, b => by simp [alt, alt_length k]
theorem run_app (A B p q : Int) (l m : List Bool) (z : Int × Int) : run A B p q (l ++ m) z = run A B p q l (run A B p q m z) := by
  unfold run
  rw [List.foldr_append]
theorem run_one (A B p q : Int) (b : Bool) (z : Int × Int) : run A B p q [b] z = step A B p q b z := rfl
theorem step_step (A B p q : Int) (b : Bool) (z : Int × Int) : step A B p q b (step A B p q b z) = z := by
  cases b
  · simp only [step, Bool.false_eq_true, if_false]
    exact Prod.ext rfl (by simp; omega)
  · simp only [step, if_true]
    exact Prod.ext (by simp; omega) rfl
def Req (p q : Int) (l m : List Bool) : Prop := ∀ A B z, run A B p q l z = run A B p q m z
theorem Req.rfl {p q : Int} {l : List Bool} : Req p q l l := fun _ _ _ => Eq.refl _
theorem Req.symm {p q : Int} {l m : List Bool} (h : Req p q l m) : Req p q m l := fun A B z => (h A B z).symm
theorem Req.trans {p q : Int} {l m k : List Bool} (h : Req p q l m) (h' : Req p q m k) : Req p q l k := fun A B z => (h A B z).trans (h' A B z)
theorem Req.app {p q : Int} {l m x y : List Bool} (h : Req p q l m) (h' : Req p q x y) : Req p q (l ++ x) (m ++ y) := fun A B z => by rw [run_app, run_app, h' A B z, h]
theorem Req.sq {p q : Int} (b : Bool) : Req p q [b, b] [] := fun A B z => step_step A B p q b z
/-- how many letters of two do the same from both sides -/
def mOf (p q : Int) : Nat := if p * q = 0 then 2 else if p * q = 1 then 3 else if p * q = 2 then 4 else if p * q = 3 then 6 else 0
theorem braid {p q : Int} (h : OKp p q) (hm : mOf p q ≠ 0) : Req p q (alt (mOf p q) true) (alt (mOf p q) false) := by
  intro A B z
  obtain ⟨x, y⟩ := z
  cases h with
  | a => exact Prod.ext (by simp [mOf, alt, run, step]; try omega) (by simp [mOf, alt, run, step]; try omega)
  | b => exact Prod.ext (by simp [mOf, alt, run, step]; try omega) (by simp [mOf, alt, run, step]; try omega)
  | c => exact Prod.ext (by simp [mOf, alt, run, step]; try omega) (by simp [mOf, alt, run, step]; try omega)
  | d => exact Prod.ext (by simp [mOf, alt, run, step]; try omega) (by simp [mOf, alt, run, step]; try omega)
  | e => exact Prod.ext (by simp [mOf, alt, run, step]; try omega) (by simp [mOf, alt, run, step]; try omega)
  | f => exact Prod.ext (by simp [mOf, alt, run, step]; try omega) (by simp [mOf, alt, run, step]; try omega)
  | g => exact absurd (by decide) hm
theorem alt_split : ∀ (k m : Nat) (b : Bool), ∃ x, alt (k + m) b = alt k x ++ alt m b
  | k, 0, b => ⟨b, by simp [alt]⟩
  | k, m + 1, b => by
    obtain ⟨x, hx⟩ := alt_split k m (!b)
    refine ⟨x, ?_⟩
    show alt (k + m) (!b) ++ [b] = alt k x ++ (alt m (!b) ++ [b])
    rw [hx, List.append_assoc]
theorem snoc_cases {α : Type} : ∀ (l : List α), l = [] ∨ ∃ i x, l = i ++ [x]
  | [] => .inl rfl
  | a :: l => by
    rcases snoc_cases l with h | ⟨i, x, h⟩
    · exact .inr ⟨[], a, by rw [h]; rfl⟩
    · exact .inr ⟨a :: i, x, by rw [h]; rfl⟩
/-- a word of two letters that cannot be shorter goes to and fro -/
theorem red_alt {p q : Int} : ∀ (k : Nat) (b : List Bool), b.length = k → (∀ b', Req p q b b' → b.length ≤ b'.length) → ∃ x, b = alt k x
  | 0, b, h, _ => ⟨true, List.length_eq_zero_iff.mp h⟩
  | k + 1, b, h, hr => by
    rcases snoc_cases b with e | ⟨l, x, e⟩
    · subst e; cases h
    · subst e
      have hl : l.length = k := by simpa using h
      obtain ⟨y, hy⟩ := red_alt k l hl fun l' e => by
        have := hr (l' ++ [x]) (.app e .rfl)
        simpa using this
      refine ⟨x, ?_⟩
      show l ++ [x] = alt k (!x) ++ [x]
      cases k with
      | zero => rw [hy]; rfl
      | succ k =>
        by_cases hxy : y = x
        · subst hxy
          exfalso
          have e2 : Req p q (l ++ [y]) (alt k (!y)) := by
            rw [hy]
            show Req p q (alt k (!y) ++ [y] ++ [y]) _
            rw [List.append_assoc]
            have : Req p q (alt k (!y) ++ [y, y]) (alt k (!y) ++ []) := .app .rfl (.sq y)
            simpa using this
          have := hr _ e2
          rw [alt_length, List.length_append, hl] at this
          simp at this
          omega
        · have : y = !x := by cases y <;> cases x <;> simp_all
          rw [hy, this]
theorem inf_pos : ∀ (k : Nat) (x y : Int), 0 ≤ x → 0 ≤ y →
    (y ≤ x → 0 ≤ (run 0 0 2 2 (alt k false) (x, y)).1 ∧ 0 ≤ (run 0 0 2 2 (alt k false) (x, y)).2) ∧ (x ≤ y → 0 ≤ (run 0 0 2 2 (alt k true) (x, y)).1 ∧ 0 ≤ (run 0 0 2 2 (alt k true) (x, y)).2)
  | 0, x, y, hx, hy => ⟨fun _ => ⟨hx, hy⟩, fun _ => ⟨hx, hy⟩⟩
  | k + 1, x, y, hx, hy => by
    constructor
    · intro h
      have := (inf_pos k x (0 + 2 * x - y) hx (by omega)).2 (by omega)
      show 0 ≤ (run 0 0 2 2 (alt k (!false) ++ [false]) (x, y)).1 ∧ 0 ≤ (run 0 0 2 2 (alt k (!false) ++ [false]) (x, y)).2
      rw [run_app]
      exact this
    · intro h
      have := (inf_pos k (0 + 2 * y - x) y (by omega) hy).1 (by omega)
      show 0 ≤ (run 0 0 2 2 (alt k (!true) ++ [true]) (x, y)).1 ∧ 0 ≤ (run 0 0 2 2 (alt k (!true) ++ [true]) (x, y)).2
      rw [run_app]
      exact this
theorem small_pos {p q : Int} (h : OKp p q) : ∀ k, mOf p q = 0 ∨ k < mOf p q → 0 ≤ (run 0 0 p q (alt k false) (1, 0)).1 ∧ 0 ≤ (run 0 0 p q (alt k false) (1, 0)).2 := by
  intro k hk
  cases h with
  | a =>
    have : k < 2 := by simpa [mOf] using hk
    match k, this with
    | 0, _ | 1, _ => decide
  | b =>
    have : k < 3 := by simpa [mOf] using hk
    match k, this with
    | 0, _ | 1, _ | 2, _ => decide
  | c =>
    have : k < 4 := by simpa [mOf] using hk
    match k, this with
    | 0, _ | 1, _ | 2, _ | 3, _ => decide
  | d =>
    have : k < 4 := by simpa [mOf] using hk
    match k, this with
    | 0, _ | 1, _ | 2, _ | 3, _ => decide
  | e =>
    have : k < 6 := by simpa [mOf] using hk
    match k, this with
    | 0, _ | 1, _ | 2, _ | 3, _ | 4, _ | 5, _ => decide
  | f =>
    have : k < 6 := by simpa [mOf] using hk
    match k, this with
    | 0, _ | 1, _ | 2, _ | 3, _ | 4, _ | 5, _ => decide
  | g => exact (inf_pos k 1 0 (by decide) (by decide)).1 (by decide)
/-- what a word of two letters does with the first one, if neither it nor it with that letter behind can be shorter -/
theorem two_pos {p q : Int} (h : OKp p q) {b : List Bool} (hr : ∀ b', Req p q b b' → b.length ≤ b'.length) (hs : ∀ b', Req p q (b ++ [true]) b' → b.length ≤ b'.length) :
    0 ≤ (run 0 0 p q b (1, 0)).1 ∧ 0 ≤ (run 0 0 p q b (1, 0)).2 := by
  obtain ⟨x, hx⟩ := red_alt b.length b rfl hr
  generalize hk : b.length = k at *
  have hx2 : b = alt k false := by
    cases k with
    | zero => rw [hx]; rfl
    | succ k =>
      cases x with
      | false => exact hx
      | true =>
        exfalso
        have e : Req p q (b ++ [true]) (alt k false) := by
          rw [hx]
          show Req p q (alt k false ++ [true] ++ [true]) _
          rw [List.append_assoc]
          have : Req p q (alt k false ++ [true, true]) (alt k false ++ []) := .app .rfl (.sq true)
          simpa using this
        have := hs _ e
        rw [alt_length] at this
        omega
  subst hx2
  by_cases hm : mOf p q = 0
  · exact small_pos h k (.inl hm)
  · by_cases hkm : k < mOf p q
    · exact small_pos h k (.inr hkm)
    · exfalso
      obtain ⟨y, hy⟩ := alt_split (k - mOf p q) (mOf p q) false
      rw [Nat.sub_add_cancel (by omega)] at hy
      obtain ⟨j, hj⟩ : ∃ j, mOf p q = j + 1 := ⟨mOf p q - 1, by omega⟩
      have e : Req p q (alt k false ++ [true]) (alt (k - mOf p q) y ++ alt j false) := by
        rw [hy, List.append_assoc]
        refine .app .rfl ?_
        have e1 : Req p q (alt (mOf p q) false ++ [true]) (alt (mOf p q) true ++ [true]) := .app (braid h hm).symm .rfl
        refine e1.trans ?_
        rw [hj]
        show Req p q (alt j false ++ [true] ++ [true]) _
        rw [List.append_assoc]
        have : Req p q (alt j false ++ [true, true]) (alt j false ++ []) := .app .rfl (.sq true)
        simpa using this
      have := hs _ e
      rw [List.length_append, alt_length, alt_length] at this
      omega
/-! ### in all vectors -/
section
variable {n : Nat} {c : Nat → Nat → Int} {s t : Nat}
def wd (s t : Nat) (b : List Bool) : List Nat := b.map fun x => if x = true then s else t
theorem wd_app (l m : List Bool) : wd s t (l ++ m) = wd s t l ++ wd s t m := List.map_append
theorem wd_length (l : List Bool) : (wd s t l).length = l.length := List.length_map _
theorem wd_lt (hs : s < n) (ht : t < n) (l : List Bool) : Lt n (wd s t l) := fun i hi => by
  obtain ⟨b, _, rfl⟩ := List.mem_map.mp hi
  split <;> assumption
def rest (n : Nat) (c : Nat → Nat → Int) (i j : Nat) (v : Vec) : Int := sumTo n fun k => if k = i ∨ k = j then 0 else c i k * v k
def put (s t : Nat) (v : Vec) (z : Int × Int) : Vec := fun k => if k = s then z.1 else if k = t then z.2 else v k
theorem lam_split {i j : Nat} (hj : j < n) (h : j ≠ i) (v : Vec) : lam n c i v = rest n c i j v + c i j * v j := by
  have e := sumTo_one (f := fun k => c i k * v k) hj
  unfold lam rest
  rw [← e, ← sumTo_add]
  refine sumTo_congr fun k _ => ?_
  by_cases h1 : k = i
  · subst h1
    simp [Ne.symm h]
  · by_cases h2 : k = j
    · subst h2
      simp [h1]
    · simp [h1, h2]
theorem rest_put (i j : Nat) (h : (i = s ∧ j = t) ∨ (i = t ∧ j = s)) (v : Vec) (z : Int × Int) : rest n c i j (put s t v z) = rest n c i j v := by
  refine sumTo_congr fun k _ => ?_
  by_cases h1 : k = i ∨ k = j
  · simp [h1]
  · rw [if_neg h1, if_neg h1]
    have h2 : k ≠ s ∧ k ≠ t := by omega
    simp [put, h2.1, h2.2]
theorem act_wd (hs : s < n) (ht : t < n) (hst : s ≠ t) (v : Vec) : ∀ b : List Bool, act n c (wd s t b) v = put s t v (run (rest n c s t v) (rest n c t s v) (c s t) (c t s) b (v s, v t))
  | [] => by
    funext k
    simp only [wd, List.map_nil, act_nil, run, List.foldr_nil, put]
    split
    · rename_i h; rw [h]
    · split
      · rename_i h; rw [h]
      · rfl
  | x :: b => by
    have ih := act_wd hs ht hst v b
    have e : act n c (wd s t (x :: b)) v = refl n c (if x = true then s else t) (act n c (wd s t b) v) := rfl
    rw [e, ih]
    show _ = put s t v (step _ _ _ _ x (run _ _ _ _ b (v s, v t)))
    generalize run (rest n c s t v) (rest n c t s v) (c s t) (c t s) b (v s, v t) = z
    funext k
    cases x with
    | true =>
      simp only [if_pos, refl, step, put]
      by_cases h : k = s
      · subst h
        simp only [if_pos]
        have := lam_split (c := c) ht (Ne.symm hst) (put k t v z)
        rw [rest_put k t (.inl ⟨rfl, rfl⟩)] at this
        have e2 : put k t v z t = z.2 := by simp [put, Ne.symm hst]
        rw [e2] at this
        rw [this]
      · simp [h]
    | false =>
      simp only [Bool.false_eq_true, if_false, refl, step, put]
      by_cases h : k = t
      · subst h
        simp only [if_pos, if_neg (Ne.symm hst)]
        have := lam_split (c := c) hs hst (put s k v z)
        rw [rest_put k s (.inr ⟨rfl, rfl⟩)] at this
        have e2 : put s k v z s = z.1 := by simp [put]
        rw [e2] at this
        rw [this]
      · simp [h]
theorem Req.eqv (hs : s < n) (ht : t < n) (hst : s ≠ t) {l m : List Bool} (h : Req (c s t) (c t s) l m) : Eqv n c (wd s t l) (wd s t m) := fun v => by
  rw [act_wd hs ht hst, act_wd hs ht hst, h]
theorem rest_alpha (i j : Nat) (k : Nat) (h : k = i ∨ k = j) : rest n c i j (alpha k) = 0 := by
  have : rest n c i j (alpha k) = sumTo n fun _ => 0 := sumTo_congr fun x _ => by
    by_cases e : x = i ∨ x = j
    · simp [e]
    · rw [if_neg e]
      have : x ≠ k := by omega
      simp [alpha, this]
  rw [this, sumTo_zero]
theorem act_wd_alpha (hs : s < n) (ht : t < n) (hst : s ≠ t) (b : List Bool) : act n c (wd s t b) (alpha s) = lin (run 0 0 (c s t) (c t s) b (1, 0)).1 (alpha s) (run 0 0 (c s t) (c t s) b (1, 0)).2 (alpha t) := by
  rw [act_wd hs ht hst, rest_alpha s t s (.inl rfl), rest_alpha t s s (.inr rfl)]
  have e1 : alpha s s = 1 := by simp [alpha]
  have e2 : alpha s t = 0 := by simp [alpha, Ne.symm hst]
  rw [e1, e2]
  generalize run 0 0 (c s t) (c t s) b (1, 0) = z
  funext k
  by_cases h1 : k = s
  · subst h1
    simp [put, lin, alpha, hst]
  · by_cases h2 : k = t
    · subst h2
      simp [put, lin, alpha, h1]
    · simp [put, lin, alpha, h1, h2]
end
/-! ### roots are above or below -/
section
variable {n : Nat} {c : Nat → Nat → Int}
theorem pos (H : OKc n c) : ∀ (L : Nat) (w : List Nat), Lt n w → len n c w = L → ∀ s, s < n → len n c w ≤ len n c (w ++ [s]) → ∀ k, 0 ≤ act n c w (alpha s) k := by
  intro L
  induction L using Nat.strongRecOn with
  | _ L ih =>
    intro w hw hL s hs hws k
    obtain ⟨⟨w0, l0, e0, h0⟩, hmin⟩ := len_spec (c := c) hw
    rcases snoc_cases w0 with hz | ⟨u, t, hz⟩
    · subst hz
      rw [e0]
      simp only [act_nil, alpha]
      split <;> omega
    · subst hz
      have ht : t < n := l0 t (by simp)
      have hu : Lt n u := l0.left
      have hul : u.length + 1 = len n c w := by simpa using h0
      have hst : s ≠ t := by
        rintro rfl
        have e : Eqv n c (w ++ [s]) u := by
          have h1 : Eqv n c (w ++ [s]) (u ++ [s] ++ [s]) := .app e0 .rfl
          refine h1.trans ?_
          rw [List.append_assoc]
          have : Eqv n c (u ++ [s, s]) (u ++ []) := .app .rfl .sq
          simpa using this
        have := len_le (hw.app (.one hs)) hu e
        omega
      have hex : ∃ j, ∃ v b, Lt n v ∧ v.length = j ∧ Eqv n c w (v ++ wd s t b) ∧ v.length + b.length = len n c w := ⟨u.length, u, [false], hu, rfl, e0, hul⟩
      obtain ⟨j, ⟨v, b, lv, hv, ev, hvb⟩, hjm⟩ := exists_min hex
      have hju : v.length ≤ u.length := by rw [hv]; exact hjm _ ⟨u, [false], hu, rfl, e0, hul⟩
      have vlen : len n c v = v.length := by
        have h1 := len_le lv lv (.rfl (c := c))
        obtain ⟨⟨v', l', e', hv'⟩, _⟩ := len_spec (c := c) lv
        have h2 := len_le hw (l'.app (wd_lt hs ht b)) (ev.trans (.app e' .rfl))
        rw [List.length_append, wd_length] at h2
        omega
      have up : ∀ x, len n c v ≤ len n c (v ++ [if x = true then s else t]) := by
        intro x
        have hx : (if x = true then s else t) < n := by split <;> assumption
        refine Nat.le_of_not_lt fun hlt => ?_
        obtain ⟨⟨v', l', e', hv'⟩, _⟩ := len_spec (c := c) (lv.app (.one hx))
        have e2 : Eqv n c w (v' ++ wd s t (x :: b)) := by
          refine ev.trans ?_
          have h1 : Eqv n c (v ++ wd s t b) (v ++ [if x = true then s else t] ++ wd s t (x :: b)) := by
            have h2 : Eqv n c ([if x = true then s else t] ++ wd s t (x :: b)) (wd s t b) := by
              have h3 : Eqv n c ([if x = true then s else t, if x = true then s else t] ++ wd s t b) ([] ++ wd s t b) := .app .sq .rfl
              exact h3
            rw [List.append_assoc]
            exact .app .rfl h2.symm
          exact h1.trans (.app e' .rfl)
        have h2 := len_le hw (l'.app (wd_lt hs ht (x :: b))) e2
        rw [List.length_append, wd_length, List.length_cons] at h2
        have h3 := hjm v'.length ⟨v', x :: b, l', rfl, e2, by rw [List.length_cons]; omega⟩
        omega
      have hlt : v.length < L := by omega
      have ps := ih v.length hlt v lv vlen s hs (by simpa using up true)
      have pt := ih v.length hlt v lv vlen t ht (by simpa using up false)
      have tp := two_pos (H s t hs ht hst) (b := b) (fun b' e => ?_) (fun b' e => ?_)
      · rw [ev, act_append, act_wd_alpha hs ht hst, act_lin]
        have h1 := Int.mul_nonneg tp.1 (ps k)
        have h2 := Int.mul_nonneg tp.2 (pt k)
        simp only [lin]
        omega
      · have h1 := len_le hw (lv.app (wd_lt hs ht b')) (ev.trans (.app .rfl (e.eqv hs ht hst)))
        rw [List.length_append, wd_length] at h1
        omega
      · have e2 : Eqv n c (w ++ [s]) (v ++ wd s t b') := by
          have h1 : Eqv n c (w ++ [s]) (v ++ wd s t b ++ [s]) := .app ev .rfl
          refine h1.trans ?_
          rw [List.append_assoc]
          refine .app .rfl ?_
          have := e.eqv hs ht hst
          rwa [wd_app] at this
        have h1 := len_le (hw.app (.one hs)) (lv.app (wd_lt hs ht b')) e2
        rw [List.length_append, wd_length] at h1
        omega
/-- w sends the single row of s above or below, by lengths -/
theorem act_snoc_alpha (w : List Nat) (s : Nat) (k : Nat) : act n c (w ++ [s]) (alpha s) k = - act n c w (alpha s) k := by
  rw [act_append, act_cons, act_nil, refl_alpha, act_lin]
  simp only [lin]
  omega
theorem act_alpha_ne (w : List Nat) (s : Nat) : ∃ k, act n c w (alpha s) k ≠ 0 := by
  refine Classical.byContradiction fun h => ?_
  have h0 : act n c w (alpha s) = act n c w (lin 0 (alpha s) 0 (alpha s)) := by
    funext k
    rw [act_lin]
    simp only [lin]
    have := Classical.byContradiction fun z => h ⟨k, z⟩
    omega
  have := congrFun (act_inj h0) s
  simp [alpha, lin] at this
theorem dich (H : OKc n c) {w : List Nat} (hw : Lt n w) {s : Nat} (hs : s < n) : (len n c (w ++ [s]) = len n c w + 1 ∧ ∀ k, 0 ≤ act n c w (alpha s) k) ∨ (len n c (w ++ [s]) + 1 = len n c w ∧ ∀ k, act n c w (alpha s) k ≤ 0) := by
  have h1 := len_app_le (c := c) hw (Lt.one hs)
  have h2 := len_app1 (c := c) hw hs
  have hws := hw.app (Lt.one hs)
  have e : Eqv n c (w ++ [s] ++ [s]) w := by
    have : Eqv n c (w ++ [s, s]) (w ++ []) := .app .rfl .sq
    simpa using this
  have el := len_eqv (hws.app (Lt.one hs)) hw e
  have P1 : len n c w ≤ len n c (w ++ [s]) → ∀ k, 0 ≤ act n c w (alpha s) k := fun h => pos H _ w hw rfl s hs h
  have P2 : len n c (w ++ [s]) ≤ len n c w → ∀ k, act n c w (alpha s) k ≤ 0 := fun h k => by
    have := pos H _ (w ++ [s]) hws rfl s hs (by rw [el]; exact h) k
    rw [act_snoc_alpha] at this
    omega
  simp only [List.length_singleton] at h1
  rcases Nat.lt_trichotomy (len n c w) (len n c (w ++ [s])) with h | h | h
  · exact .inl ⟨by omega, P1 (by omega)⟩
  · exfalso
    obtain ⟨k, hk⟩ := act_alpha_ne (n := n) (c := c) w s
    have := P1 (by omega) k
    have := P2 (by omega) k
    omega
  · exact .inr ⟨by omega, P2 (by omega)⟩
/-- a root is above or below -/
theorem root_sign (H : OKc n c) {w : List Nat} (hw : Lt n w) {s : Nat} (hs : s < n) : (∀ k, 0 ≤ act n c w (alpha s) k) ∨ ∀ k, act n c w (alpha s) k ≤ 0 :=
  (dich H hw hs).imp (·.2) (·.2)
end
end Cox
set_option linter.all false
namespace Cox
/-! ### exchange -/
section
variable {n : Nat} {c : Nat → Nat → Int}
theorem alpha_self (t : Nat) : alpha t t = 1 := by simp [alpha]
theorem alpha_other {t k : Nat} (h : k ≠ t) : alpha t k = 0 := by simp [alpha, h]
theorem not_both {w : List Nat} {s : Nat} (h1 : ∀ k, 0 ≤ act n c w (alpha s) k) (h2 : ∀ k, act n c w (alpha s) k ≤ 0) : False := by
  obtain ⟨k, hk⟩ := act_alpha_ne (n := n) (c := c) w s
  have := h1 k
  have := h2 k
  omega
/-- a root that one letter turns is that letter's single row -/
theorem turned_one {w : List Nat} {s t : Nat} (h1 : ∀ k, 0 ≤ act n c w (alpha s) k) (h2 : ∀ k, act n c (t :: w) (alpha s) k ≤ 0) : act n c w (alpha s) = alpha t := by
  have hz : ∀ k, k ≠ t → act n c w (alpha s) k = 0 := fun k hk => by
    have a := h1 k
    have b := h2 k
    rw [act_cons] at b
    simp only [refl, if_neg hk] at b
    omega
  have hm : act n c w (alpha s) = lin (act n c w (alpha s) t) (alpha t) 0 (alpha t) := by
    funext k
    by_cases hk : k = t
    · subst hk; simp [lin, alpha_self]
    · simp [lin, alpha_other hk, hz k hk]
  have e : alpha s = lin (act n c w (alpha s) t) (act n c w.reverse (alpha t)) 0 (act n c w.reverse (alpha t)) := by
    rw [← act_lin, ← hm, act_rev]
  have e1 := congrFun e s
  rw [alpha_self] at e1
  simp only [lin, Int.zero_mul, Int.add_zero] at e1
  have hu : act n c w (alpha s) t = 1 := by
    have hd : act n c w (alpha s) t ∣ 1 := ⟨_, e1⟩
    have h0 := h1 t
    have := Int.le_of_dvd (by decide) hd
    by_cases z : act n c w (alpha s) t = 0
    · rw [z] at e1; simp at e1
    · omega
  rw [hm, hu]
  funext k
  simp [lin]
/-- the linear part that a letter looks at -/
theorem act_low {w : List Nat} (hw : Lt n w) (v : Vec) {k : Nat} (hk : n ≤ k) : act n c w v k = v k := by
  induction w with
  | nil => rfl
  | cons i w ih =>
    rw [act_cons]
    have hi : i < n := hw i (by simp)
    simp only [refl, if_neg (show k ≠ i by omega)]
    exact ih fun j hj => hw j (by simp [hj])
theorem lam_low (i : Nat) (v u : Vec) (h : ∀ k, k < n → v k = u k) : lam n c i v = lam n c i u := sumTo_congr fun j hj => by rw [h j hj]
theorem act_congr_low {w : List Nat} (hw : Lt n w) {v u : Vec} (h : ∀ k, k < n → v k = u k) {k : Nat} (hk : k < n) : act n c w v k = act n c w u k := by
  induction w generalizing k with
  | nil => exact h k hk
  | cons i w ih =>
    have hw' : Lt n w := fun j hj => hw j (by simp [hj])
    rw [act_cons, act_cons]
    simp only [refl]
    by_cases hk2 : k = i
    · rw [if_pos hk2, if_pos hk2, lam_low i _ (act n c w u) fun j hj => ih hw' hj, ih hw' (by omega)]
    · rw [if_neg hk2, if_neg hk2, ih hw' hk]
/-- the part of a vector ahead of m -/
def cut (m : Nat) (v : Vec) : Vec := fun k => if k < m then v k else 0
theorem cut_succ (m : Nat) (v : Vec) : cut (m + 1) v = lin 1 (cut m v) (v m) (alpha m) := by
  funext k
  simp only [cut, lin]
  by_cases h : k < m
  · rw [if_pos (by omega), if_pos h, alpha_other (by omega)]; omega
  · by_cases h2 : k = m
    · subst h2; rw [if_pos (by omega), if_neg h, alpha_self]; omega
    · rw [if_neg (by omega), if_neg h, alpha_other h2]; omega
/-- words that do the same with all single rows do the same -/
theorem eqv_of_alpha {w u : List Nat} (hw : Lt n w) (hu : Lt n u) (h : ∀ s, s < n → act n c w (alpha s) = act n c u (alpha s)) : Eqv n c w u := by
  have hc : ∀ m, m ≤ n → ∀ v, act n c w (cut m v) = act n c u (cut m v) := by
    intro m
    induction m with
    | zero =>
      intro _ v
      have e : cut 0 v = lin 0 (alpha 0) 0 (alpha 0) := by funext k; simp [cut, lin]
      rw [e, act_lin, act_lin]
      funext k
      simp [lin]
    | succ m ih =>
      intro hm v
      rw [cut_succ, act_lin, act_lin, ih (by omega), h m (by omega)]
  intro v
  funext k
  by_cases hk : k < n
  · have e : ∀ j, j < n → v j = cut n v j := fun j hj => by simp [cut, hj]
    rw [act_congr_low hw e hk, act_congr_low hu e hk, hc n (by omega)]
  · rw [act_low hw _ (by omega), act_low hu _ (by omega)]
/-- a reflection is known by its root -/
theorem conj (H : OKc n c) {w : List Nat} (hw : Lt n w) {s t : Nat} (hs : s < n) (ht : t < n) (h : act n c w (alpha s) = alpha t) : Eqv n c (w ++ [s]) (t :: w) := by
  -- g = t w s w' moves each v by a multiple of alpha t
  have hmove : ∀ v, ∃ a, act n c (w ++ [s] ++ w.reverse) v = lin 1 v a (alpha t) := by
    intro v
    have e1 : ∃ a, refl n c s (act n c w.reverse v) = lin 1 (act n c w.reverse v) a (alpha s) := by
      refine ⟨lam n c s (act n c w.reverse v) - act n c w.reverse v s - act n c w.reverse v s, ?_⟩
      funext k
      by_cases hk : k = s
      · subst hk; simp only [refl, if_pos, lin, alpha_self]; omega
      · simp only [refl, if_neg hk, lin, alpha_other hk]; omega
    obtain ⟨a, ha⟩ := e1
    refine ⟨a, ?_⟩
    rw [act_append, act_append, act_cons, act_nil, ha, act_lin, act_rev', h]
  have hmt : ∀ v, ∃ a, act n c ([t] ++ (w ++ [s] ++ w.reverse)) v = lin 1 v a (alpha t) := by
    intro v
    obtain ⟨a, ha⟩ := hmove v
    rw [act_append, ha, act_lin]
    have e1 : act n c [t] v = lin 1 v (lam n c t v - v t - v t) (alpha t) := by
      funext k
      rw [act_cons, act_nil]
      by_cases hk : k = t
      · subst hk; simp only [refl, if_pos, lin, alpha_self]; omega
      · simp only [refl, if_neg hk, lin, alpha_other hk]; omega
    rw [e1, act_cons, act_nil, refl_alpha]
    refine ⟨(lam n c t v - v t - v t) - a, ?_⟩
    funext k
    simp only [lin]
    by_cases hk : k = t
    · subst hk; simp only [alpha_self]; omega
    · simp only [alpha_other hk]; omega
  have hat : act n c ([t] ++ (w ++ [s] ++ w.reverse)) (alpha t) = alpha t := by
    rw [act_append, act_append, act_append]
    have e1 : act n c w.reverse (alpha t) = alpha s := by rw [← h, act_rev]
    have e2 : act n c [s] (alpha s) = lin (-1) (alpha s) 0 (alpha s) := refl_alpha s
    have e3 : act n c [t] (alpha t) = lin (-1) (alpha t) 0 (alpha t) := refl_alpha t
    rw [e1, e2, act_lin, h, act_lin, e3]
    funext k
    simp only [lin]
    omega
  have hg : Lt n ([t] ++ (w ++ [s] ++ w.reverse)) := (Lt.one ht).app ((hw.app (.one hs)).app hw.rev)
  have hfix : Eqv n c ([t] ++ (w ++ [s] ++ w.reverse)) [] := by
    refine eqv_of_alpha hg .nil fun j hj => ?_
    rw [act_nil]
    by_cases hjt : j = t
    · rw [hjt, hat]
    · obtain ⟨a, ha⟩ := hmt (alpha j)
      have hinv : act n c ([t] ++ (w ++ [s] ++ w.reverse)).reverse (alpha j) = lin 1 (alpha j) (-a) (alpha t) := by
        apply act_inj (w := [t] ++ (w ++ [s] ++ w.reverse))
        rw [act_rev', act_lin, ha, hat]
        funext k
        simp only [lin]
        have : -a * alpha t k = -(a * alpha t k) := Int.neg_mul _ _
        omega
      have p1 := root_sign H hg hj
      have p2 := root_sign H hg.rev hj
      rw [ha] at p1
      rw [hinv] at p2
      have q : ∀ b : Int, ((∀ k, 0 ≤ lin 1 (alpha j) b (alpha t) k) ∨ ∀ k, lin 1 (alpha j) b (alpha t) k ≤ 0) → 0 ≤ b := by
        intro b hb
        rcases hb with hb | hb
        · have := hb t
          simp only [lin, alpha_self, alpha_other (Ne.symm hjt)] at this
          omega
        · have := hb j
          simp only [lin, alpha_self, alpha_other hjt] at this
          omega
      have h1 := q a p1
      have h2 := q (-a) p2
      have : a = 0 := by omega
      rw [ha, this]
      funext k
      simp [lin]
  -- t w s w' ~ []  so  w s ~ t w
  intro v
  have h1 := hfix (act n c w v)
  rw [act_append, act_append, act_rev, act_nil] at h1
  have h2 := congrArg (refl n c t) h1
  rw [act_cons, act_nil, refl_refl] at h2
  rw [h2, act_cons]
/-- what one letter behind makes shorter has a letter too many -/
theorem exchange (H : OKc n c) {w : List Nat} (hw : Lt n w) {s : Nat} (hs : s < n) (h : ∀ k, act n c w (alpha s) k ≤ 0) : ∃ p t q, w = p ++ t :: q ∧ Eqv n c (w ++ [s]) (p ++ q) := by
  induction w with
  | nil =>
    have := h s
    rw [act_nil, alpha_self] at this
    omega
  | cons t w ih =>
    have hw' : Lt n w := fun j hj => hw j (by simp [hj])
    have ht : t < n := hw t (by simp)
    rcases root_sign H hw' hs with hp | hn
    · have e := turned_one hp h
      refine ⟨[], t, w, rfl, ?_⟩
      have e2 := conj H hw' hs ht e
      have e3 : Eqv n c ([t] ++ (w ++ [s])) ([t] ++ (t :: w)) := .app .rfl e2
      refine e3.trans ?_
      intro v
      show refl n c t (refl n c t _) = _
      rw [refl_refl]
      rfl
    · obtain ⟨p, t', q, e, e2⟩ := ih hw' hn
      refine ⟨t :: p, t', q, by rw [e]; rfl, ?_⟩
      have e3 : Eqv n c ([t] ++ (w ++ [s])) ([t] ++ (p ++ q)) := .app .rfl e2
      exact e3
/-! ### shortest words -/
def Red (n : Nat) (c : Nat → Nat → Int) (w : List Nat) : Prop := Lt n w ∧ len n c w = w.length
theorem len_le_length {w : List Nat} (hw : Lt n w) : len n c w ≤ w.length := len_le hw hw .rfl
theorem red_of {w : List Nat} (hw : Lt n w) (h : ∀ u, Lt n u → Eqv n c w u → w.length ≤ u.length) : Red n c w := by
  refine ⟨hw, ?_⟩
  obtain ⟨u, l, e, hu⟩ := (len_spec (c := c) hw).1
  have := h u l e
  have := len_le_length (c := c) hw
  omega
theorem Red.le {w u : List Nat} (h : Red n c w) (hu : Lt n u) (e : Eqv n c w u) : w.length ≤ u.length := by
  have := len_le h.1 hu e
  rw [h.2] at this
  exact this
theorem Red.nil : Red n c [] := red_of .nil fun u _ _ => by simp
theorem Red.left {w u : List Nat} (h : Red n c (w ++ u)) : Red n c w := red_of h.1.left fun x lx e => by
  have := h.le (lx.app h.1.right) (e.app .rfl)
  simp only [List.length_append] at this
  omega
theorem Red.right {w u : List Nat} (h : Red n c (w ++ u)) : Red n c u := red_of h.1.right fun x lx e => by
  have := h.le (h.1.left.app lx) (Eqv.rfl.app e)
  simp only [List.length_append] at this
  omega
theorem Red.eqv {w u : List Nat} (h : Red n c w) (hu : Lt n u) (e : Eqv n c w u) (hl : u.length = w.length) : Red n c u := ⟨hu, by rw [← len_eqv h.1 hu e, h.2, hl]⟩
theorem Red.len_eq {w u : List Nat} (h : Red n c w) (h' : Red n c u) (e : Eqv n c w u) : w.length = u.length := by
  rw [← h.2, ← h'.2, len_eqv h.1 h'.1 e]
theorem red_exists {w : List Nat} (hw : Lt n w) : ∃ u, Red n c u ∧ Eqv n c w u := by
  obtain ⟨u, l, e, hu⟩ := (len_spec (c := c) hw).1
  exact ⟨u, ⟨l, by rw [← len_eqv hw l e, hu]⟩, e⟩
theorem Red.rev {w : List Nat} (h : Red n c w) : Red n c w.reverse := red_of h.1.rev fun u l e => by
  have := h.le l.rev (by have := e.rev; rwa [List.reverse_reverse] at this)
  simpa using this
/-! ### moves -/
/-- one turning: parts of two letters to and fro -/
inductive Turn (n : Nat) (c : Nat → Nat → Int) : List Nat → List Nat → Prop
  | mk (p q : List Nat) {s t : Nat} (hs : s < n) (ht : t < n) (hst : s ≠ t) (hm : mOf (c s t) (c t s) ≠ 0) :
    Turn n c (p ++ wd s t (alt (mOf (c s t) (c t s)) true) ++ q) (p ++ wd s t (alt (mOf (c s t) (c t s)) false) ++ q)
inductive Turns (n : Nat) (c : Nat → Nat → Int) : List Nat → List Nat → Prop
  | rfl {w} : Turns n c w w
  | step {w u x} : Turn n c w u → Turns n c u x → Turns n c w x
theorem Turns.trans {w u x : List Nat} (h : Turns n c w u) (h' : Turns n c u x) : Turns n c w x := by
  induction h with
  | rfl => exact h'
  | step a _ ih => exact .step a (ih h')
theorem mOf_comm (p q : Int) : mOf p q = mOf q p := by unfold mOf; rw [Int.mul_comm]
theorem wd_flip (s t : Nat) : ∀ (k : Nat) (b : Bool), wd s t (alt k b) = wd t s (alt k (!b))
  | 0, b => rfl
  | k + 1, b => by
    simp only [alt, wd_app, wd_flip s t k (!b)]
    cases b <;> rfl
theorem Turn.symm {w u : List Nat} (h : Turn n c w u) : Turn n c u w := by
  obtain ⟨p, q, hs, ht, hst, hm⟩ := h
  rename_i s t
  have := Turn.mk (n := n) (c := c) p q ht hs (Ne.symm hst) (by rwa [mOf_comm])
  rw [mOf_comm (c t s), wd_flip t s, wd_flip t s] at this
  exact this
theorem Turns.symm {w u : List Nat} (h : Turns n c w u) : Turns n c u w := by
  induction h with
  | rfl => exact .rfl
  | step a _ ih => exact ih.trans (.step a.symm .rfl)
theorem Turn.ctx (p q : List Nat) {w u : List Nat} (h : Turn n c w u) : Turn n c (p ++ w ++ q) (p ++ u ++ q) := by
  obtain ⟨a, b, hs, ht, hst, hm⟩ := h
  have := Turn.mk (n := n) (c := c) (p ++ a) (b ++ q) hs ht hst hm
  simpa [List.append_assoc] using this
theorem Turns.ctx (p q : List Nat) {w u : List Nat} (h : Turns n c w u) : Turns n c (p ++ w ++ q) (p ++ u ++ q) := by
  induction h with
  | rfl => exact .rfl
  | step a _ ih => exact .step (a.ctx p q) ih
theorem Turn.eqv (H : OKc n c) {w u : List Nat} (h : Turn n c w u) : Eqv n c w u := by
  obtain ⟨p, q, hs, ht, hst, hm⟩ := h
  exact .app (.app .rfl ((braid (H _ _ hs ht hst) hm).eqv hs ht hst)) .rfl
theorem Turns.eqv (H : OKc n c) {w u : List Nat} (h : Turns n c w u) : Eqv n c w u := by
  induction h with
  | rfl => exact .rfl
  | step a _ ih => exact (a.eqv H).trans ih
theorem Turn.length {w u : List Nat} (h : Turn n c w u) : u.length = w.length := by
  obtain ⟨p, q, hs, ht, hst, hm⟩ := h
  simp [wd_length, alt_length]
theorem Turns.length {w u : List Nat} (h : Turns n c w u) : u.length = w.length := by
  induction h with
  | rfl => rfl
  | step a _ ih => rw [ih, a.length]
theorem Turn.lt {w u : List Nat} (h : Turn n c w u) (hw : Lt n w) : Lt n u := by
  obtain ⟨p, q, hs, ht, hst, hm⟩ := h
  exact (hw.left.left.app (wd_lt hs ht _)).app hw.right
theorem Turns.lt {w u : List Nat} (h : Turns n c w u) (hw : Lt n w) : Lt n u := by
  induction h with
  | rfl => exact hw
  | step a _ ih => exact ih (a.lt hw)
/-- what a word to and fro of two letters that is not the longest does with the letter that would go on -/
theorem alt_pos {p q : Int} (h : OKp p q) (k : Nat) (x : Bool) (hk : mOf p q = 0 ∨ k < mOf p q) :
    0 ≤ (run 0 0 p q (alt k x) (if x = true then (0, 1) else (1, 0))).1 ∧ 0 ≤ (run 0 0 p q (alt k x) (if x = true then (0, 1) else (1, 0))).2 := by
  cases x with
  | false => exact small_pos h k hk
  | true =>
    have sw : ∀ (k : Nat) (b : Bool) (z : Int × Int), run 0 0 p q (alt k b) z = ((run 0 0 q p (alt k (!b)) (z.2, z.1)).2, (run 0 0 q p (alt k (!b)) (z.2, z.1)).1) := by
      intro k
      induction k with
      | zero => intro b z; rfl
      | succ k ih =>
        intro b z
        simp only [alt, run_app, run_one]
        rw [ih]
        cases b <;> simp [step]
    have h' : OKp q p := by cases h <;> constructor
    have := small_pos h' k (by rwa [mOf_comm q p])
    rw [sw]
    exact ⟨this.2, this.1⟩
theorem act_wd_alpha2 {s t : Nat} (hs : s < n) (ht : t < n) (hst : s ≠ t) (b : List Bool) (x : Bool) : act n c (wd s t b) (alpha (if x = true then t else s)) = lin (run 0 0 (c s t) (c t s) b (if x = true then (0, 1) else (1, 0))).1 (alpha s) (run 0 0 (c s t) (c t s) b (if x = true then (0, 1) else (1, 0))).2 (alpha t) := by
  cases x with
  | false => exact act_wd_alpha hs ht hst b
  | true =>
    simp only [if_pos]
    rw [act_wd hs ht hst, rest_alpha s t t (.inr rfl), rest_alpha t s t (.inl rfl)]
    have e1 : alpha t t = 1 := by simp [alpha]
    have e2 : alpha t s = 0 := by simp [alpha, hst]
    rw [e1, e2]
    generalize run 0 0 (c s t) (c t s) b (0, 1) = z
    funext k
    by_cases h1 : k = s
    · subst h1
      simp [put, lin, alpha, hst]
    · by_cases h2 : k = t
      · subst h2
        simp [put, lin, alpha, h1]
      · simp [put, lin, alpha, h1, h2]
/-- of two letters that both shorten a word from behind: it ends on all of their way to and fro -/
theorem two_ends (H : OKc n c) {w : List Nat} (hw : Red n c w) {s t : Nat} (hs : s < n) (ht : t < n) (hst : s ≠ t) (h1 : ∀ k, act n c w (alpha s) k ≤ 0) (h2 : ∀ k, act n c w (alpha t) k ≤ 0) :
    mOf (c s t) (c t s) ≠ 0 ∧ ∃ v, Red n c (v ++ wd s t (alt (mOf (c s t) (c t s)) true)) ∧ Eqv n c w (v ++ wd s t (alt (mOf (c s t) (c t s)) true)) := by
  have hex : ∃ j, ∃ v b, Lt n v ∧ v.length = j ∧ Eqv n c w (v ++ wd s t b) ∧ v.length + b.length = w.length := ⟨w.length, w, [], hw.1, rfl, by simpa [wd] using Eqv.rfl, by simp⟩
  obtain ⟨j, ⟨v, b, lv, hv, ev, hvb⟩, hjm⟩ := exists_min hex
  have hred : Red n c (v ++ wd s t b) := hw.eqv (lv.app (wd_lt hs ht b)) ev (by rw [List.length_append, wd_length]; exact hvb)
  have rv : Red n c v := hred.left
  have up : ∀ x : Bool, ∀ k, 0 ≤ act n c v (alpha (if x = true then s else t)) k := by
    intro x
    have hx : (if x = true then s else t) < n := by split <;> assumption
    rcases dich H lv hx with d | d
    · exact d.2
    · exfalso
      obtain ⟨⟨v', l', e', hv'⟩, _⟩ := len_spec (c := c) (lv.app (.one hx))
      have e2 : Eqv n c w (v' ++ wd s t (x :: b)) := by
        refine ev.trans ?_
        have h1 : Eqv n c (v ++ wd s t b) (v ++ [if x = true then s else t] ++ wd s t (x :: b)) := by
          have h2 : Eqv n c ([if x = true then s else t] ++ wd s t (x :: b)) (wd s t b) := by
            have h3 : Eqv n c ([if x = true then s else t, if x = true then s else t] ++ wd s t b) ([] ++ wd s t b) := .app .sq .rfl
            exact h3
          rw [List.append_assoc]
          exact .app .rfl h2.symm
        exact h1.trans (.app e' .rfl)
      have h3 := hjm v'.length ⟨v', x :: b, l', rfl, e2, by
        have := d.1
        rw [rv.2] at this
        rw [List.length_cons]
        omega⟩
      have := d.1
      rw [rv.2] at this
      omega
  have bred : ∀ b', Req (c s t) (c t s) b b' → b.length ≤ b'.length := fun b' e => by
    have := hred.le (lv.app (wd_lt hs ht b')) (.app .rfl (e.eqv hs ht hst))
    simpa [wd_length] using this
  obtain ⟨x, hx⟩ := red_alt b.length b rfl bred
  have hge : mOf (c s t) (c t s) ≠ 0 ∧ mOf (c s t) (c t s) ≤ b.length := by
    refine Classical.byContradiction fun z => ?_
    have hk : mOf (c s t) (c t s) = 0 ∨ b.length < mOf (c s t) (c t s) := by omega
    have hp := alt_pos (H s t hs ht hst) b.length x hk
    rw [← hx] at hp
    have hy : ∀ k, 0 ≤ act n c w (alpha (if x = true then t else s)) k := fun k => by
      rw [ev, act_append, act_wd_alpha2 hs ht hst, act_lin]
      have a := Int.mul_nonneg hp.1 (up true k)
      have b := Int.mul_nonneg hp.2 (up false k)
      simp only [lin]
      simp only [if_pos, Bool.false_eq_true, if_false] at a b
      omega
    refine not_both hy ?_
    cases x with
    | true => exact h2
    | false => exact h1
  have hle : b.length ≤ mOf (c s t) (c t s) := by
    refine Nat.le_of_not_lt fun hlt => ?_
    obtain ⟨y, hy⟩ := alt_split (b.length - (mOf (c s t) (c t s) + 1)) (mOf (c s t) (c t s) + 1) x
    rw [Nat.sub_add_cancel (by omega)] at hy
    have hb := braid (H s t hs ht hst) hge.1
    -- alt (m+1) x = alt m (!x) ++ [x], and alt m (!x) does what alt m x does, which ends on x
    obtain ⟨m', hm'⟩ : ∃ m', mOf (c s t) (c t s) = m' + 1 := ⟨mOf (c s t) (c t s) - 1, by omega⟩
    have hb2 : Req (c s t) (c t s) (alt (m' + 1) (!x)) (alt (m' + 1) x) := by
      rw [← hm']
      cases x with
      | true => exact hb.symm
      | false => exact hb
    have e : Req (c s t) (c t s) b (alt (b.length - (mOf (c s t) (c t s) + 1)) y ++ alt m' (!x)) := by
      have h0 : b = alt (b.length - (mOf (c s t) (c t s) + 1)) y ++ alt (mOf (c s t) (c t s) + 1) x := by rw [← hy]; exact hx
      have e1 : Req (c s t) (c t s) (alt (mOf (c s t) (c t s) + 1) x) (alt m' (!x)) := by
        rw [hm']
        show Req _ _ (alt (m' + 1) (!x) ++ [x]) _
        refine (Req.app hb2 .rfl).trans ?_
        show Req _ _ (alt m' (!x) ++ [x] ++ [x]) _
        rw [List.append_assoc]
        have : Req (c s t) (c t s) (alt m' (!x) ++ [x, x]) (alt m' (!x) ++ []) := .app .rfl (.sq x)
        simpa using this
      exact Req.trans (by rw [← h0]; exact .rfl) (Req.app (.rfl (l := alt (b.length - (mOf (c s t) (c t s) + 1)) y)) e1)
    have := bred _ e
    rw [List.length_append, alt_length, alt_length] at this
    omega
  have hkm : b.length = mOf (c s t) (c t s) := by omega
  refine ⟨hge.1, v, ?_⟩
  rw [hkm] at hx
  cases x with
  | true => rw [hx] at hred ev; exact ⟨hred, ev⟩
  | false =>
    have hb := (braid (H s t hs ht hst) hge.1).eqv hs ht hst
    have e2 : Eqv n c w (v ++ wd s t (alt (mOf (c s t) (c t s)) true)) := by
      refine ev.trans ?_
      rw [hx]
      exact .app .rfl hb.symm
    refine ⟨hw.eqv (lv.app (wd_lt hs ht _)) e2 ?_, e2⟩
    rw [List.length_append, wd_length, alt_length, ← hkm]
    exact hvb
theorem end_neg (H : OKc n c) {w : List Nat} {s : Nat} (h : Red n c (w ++ [s])) : ∀ k, act n c (w ++ [s]) (alpha s) k ≤ 0 := by
  have hs : s < n := h.1 s (by simp)
  have hl := h.left.2
  have e := h.2
  rcases dich H h.left.1 hs with d | d
  · intro k
    rw [act_snoc_alpha]
    have := d.2 k
    omega
  · have := d.1
    rw [e, hl, List.length_append] at this
    simp at this
    omega
/-- shortest words that do the same come from one another by turnings -/
theorem matsumoto (H : OKc n c) : ∀ (L : Nat) {w u : List Nat}, w.length = L → Red n c w → Red n c u → Eqv n c w u → Turns n c w u
  | 0, w, u, hL, hw, hu, e => by
    have h1 : w = [] := List.length_eq_zero_iff.mp hL
    have h2 : u = [] := List.length_eq_zero_iff.mp (by rw [← hw.len_eq hu e, hL])
    rw [h1, h2]
    exact .rfl
  | L + 1, w, u, hL, hw, hu, e => by
    have hlu := hw.len_eq hu e
    have same : ∀ {a b : List Nat} {x : Nat}, (a ++ [x]).length = L + 1 → Red n c (a ++ [x]) → Red n c (b ++ [x]) → Eqv n c (a ++ [x]) (b ++ [x]) → Turns n c (a ++ [x]) (b ++ [x]) := by
      intro a b x hl ha hb e
      have := matsumoto H L (by simpa using hl) ha.left hb.left e.cancel
      have := this.ctx [] [x]
      simpa using this
    rcases snoc_cases w with hz | ⟨a, s, hz⟩
    · rw [hz] at hL; cases hL
    rcases snoc_cases u with hz' | ⟨b, t, hz'⟩
    · rw [hz', hL] at hlu; cases hlu
    subst hz hz'
    by_cases hst : s = t
    · subst hst
      exact same hL hw hu e
    · have hs : s < n := hw.1 s (by simp)
      have ht : t < n := hu.1 t (by simp)
      have n1 := end_neg H hw
      have n2 : ∀ k, act n c (a ++ [s]) (alpha t) k ≤ 0 := fun k => by rw [e]; exact end_neg H hu k
      obtain ⟨hm, v, rv, ev⟩ := two_ends H hw hs ht hst n1 n2
      have hb := (braid (H s t hs ht hst) hm).eqv hs ht hst
      have rf : Red n c (v ++ wd s t (alt (mOf (c s t) (c t s)) false)) := rv.eqv (rv.1.left.app (wd_lt hs ht _)) (.app .rfl hb) (by simp [wd_length, alt_length])
      have t1 : Turn n c (v ++ wd s t (alt (mOf (c s t) (c t s)) true)) (v ++ wd s t (alt (mOf (c s t) (c t s)) false)) := by
        have := Turn.mk (n := n) (c := c) v [] hs ht hst hm
        simpa using this
      obtain ⟨m', hm'⟩ : ∃ m', mOf (c s t) (c t s) = m' + 1 := ⟨mOf (c s t) (c t s) - 1, by omega⟩
      have e1 : v ++ wd s t (alt (mOf (c s t) (c t s)) true) = (v ++ wd s t (alt m' false)) ++ [s] := by
        rw [hm', List.append_assoc]; congr 1; simp only [alt, wd_app]; rfl
      have e2 : v ++ wd s t (alt (mOf (c s t) (c t s)) false) = (v ++ wd s t (alt m' true)) ++ [t] := by
        rw [hm', List.append_assoc]; congr 1; simp only [alt, wd_app]; rfl
      have ef : Eqv n c (b ++ [t]) (v ++ wd s t (alt (mOf (c s t) (c t s)) false)) := e.symm.trans (ev.trans (.app .rfl hb))
      rw [e1] at rv ev t1
      rw [e2] at rf t1 ef
      exact (same hL hw rv ev).trans (.step t1 (same (by rw [← hlu, hL]) hu rf ef).symm)
/-- one striking -/
inductive Strike : List Nat → List Nat → Prop
  | mk (p q : List Nat) (s : Nat) : Strike (p ++ s :: s :: q) (p ++ q)
theorem Strike.eqv {w u : List Nat} (h : Strike w u) : Eqv n c w u := by
  obtain ⟨p, q, s⟩ := h
  exact .app .rfl (fun v => refl_refl s _)
theorem Strike.length {w u : List Nat} (h : Strike w u) : w.length = u.length + 2 := by
  obtain ⟨p, q, s⟩ := h
  simp
  omega
theorem Strike.lt {w u : List Nat} (h : Strike w u) (hw : Lt n w) : Lt n u := by
  obtain ⟨p, q, s⟩ := h
  exact hw.left.app fun i hi => hw i (by simp [hi])
theorem first_long {w : List Nat} (hw : Lt n w) (h : len n c w ≠ w.length) : ∃ p s q, w = p ++ s :: q ∧ Red n c p ∧ ¬ Red n c (p ++ [s]) := by
  have key : ∀ (w' p : List Nat), w = p ++ w' → Red n c p → ∃ p s q, w = p ++ s :: q ∧ Red n c p ∧ ¬ Red n c (p ++ [s]) := by
    intro w'
    induction w' with
    | nil =>
      intro p hp hr
      rw [List.append_nil] at hp
      subst hp
      exact absurd hr.2 h
    | cons s q ih =>
      intro p hp hr
      by_cases hz : Red n c (p ++ [s])
      · exact ih (p ++ [s]) (by simp [hp]) hz
      · exact ⟨p, s, q, hp, hr, hz⟩
  exact key w [] rfl .nil
theorem not_red_neg (H : OKc n c) {p : List Nat} {s : Nat} (hp : Red n c p) (hs : s < n) (h : ¬ Red n c (p ++ [s])) : ∀ k, act n c p (alpha s) k ≤ 0 := by
  rcases dich H hp.1 hs with d | d
  · exact absurd ⟨hp.1.app (.one hs), by rw [d.1, hp.2]; simp⟩ h
  · exact d.2
/-- a word that is not shortest is turned until a letter stands twice -/
theorem to_strike (H : OKc n c) {w : List Nat} (hw : Lt n w) (h : len n c w ≠ w.length) : ∃ u x, Turns n c w u ∧ Strike u x := by
  obtain ⟨p, s, q, e, rp, nr⟩ := first_long hw h
  have hs : s < n := hw s (by simp [e])
  have neg := not_red_neg H rp hs nr
  obtain ⟨a, t, b, e1, e2⟩ := exchange H rp.1 hs neg
  -- p ~ a ++ b ++ [s], as long
  have hab : Lt n (a ++ b) := by
    have := rp.1
    rw [e1] at this
    exact this.left.app fun i hi => this i (by simp [hi])
  have e3 : Eqv n c p (a ++ b ++ [s]) := by
    have h1 : Eqv n c (p ++ [s] ++ [s]) (a ++ b ++ [s]) := .app e2 .rfl
    have h2 : Eqv n c (p ++ [s] ++ [s]) p := by
      rw [List.append_assoc]
      have : Eqv n c (p ++ [s, s]) (p ++ []) := .app .rfl .sq
      simpa using this
    exact h2.symm.trans h1
  have r3 : Red n c (a ++ b ++ [s]) := rp.eqv (hab.app (.one hs)) e3 (by rw [e1]; simp)
  have tt := matsumoto H _ rfl rp r3 e3
  have t2 := tt.ctx [] (s :: q)
  refine ⟨(a ++ b) ++ s :: s :: q, (a ++ b) ++ q, ?_, .mk _ _ _⟩
  have e4 : [] ++ (a ++ b ++ [s]) ++ s :: q = (a ++ b) ++ s :: s :: q := by simp
  have e5 : [] ++ p ++ s :: q = w := by rw [e]; simp
  rw [e4, e5] at t2
  exact t2
/-- turnings and strikings -/
inductive Down (n : Nat) (c : Nat → Nat → Int) : List Nat → List Nat → Prop
  | rfl {w} : Down n c w w
  | turn {w u x} : Turn n c w u → Down n c u x → Down n c w x
  | strike {w u x} : Strike w u → Down n c u x → Down n c w x
theorem Down.trans {w u x : List Nat} (h : Down n c w u) (h' : Down n c u x) : Down n c w x := by
  induction h with
  | rfl => exact h'
  | turn a _ ih => exact .turn a (ih h')
  | strike a _ ih => exact .strike a (ih h')
theorem Turns.down {w u : List Nat} (h : Turns n c w u) : Down n c w u := by
  induction h with
  | rfl => exact .rfl
  | step a _ ih => exact .turn a ih
theorem Down.eqv (H : OKc n c) {w u : List Nat} (h : Down n c w u) : Eqv n c w u := by
  induction h with
  | rfl => exact .rfl
  | turn a _ ih => exact (a.eqv H).trans ih
  | strike a _ ih => exact a.eqv.trans ih
theorem Down.lt {w u : List Nat} (h : Down n c w u) (hw : Lt n w) : Lt n u := by
  induction h with
  | rfl => exact hw
  | turn a _ ih => exact ih (a.lt hw)
  | strike a _ ih => exact ih (a.lt hw)
theorem Down.par {w u : List Nat} (h : Down n c w u) : w.length % 2 = u.length % 2 := by
  induction h with
  | rfl => rfl
  | turn a _ ih => rw [← a.length]; exact ih
  | strike a _ ih => rw [a.length]; omega
/-- each word comes to a shortest one by turnings and strikings -/
theorem tits_one (H : OKc n c) : ∀ (L : Nat) {w : List Nat}, w.length = L → Lt n w → ∃ u, Red n c u ∧ Down n c w u := by
  intro L
  induction L using Nat.strongRecOn with
  | _ L ih =>
    intro w hL hw
    by_cases h : len n c w = w.length
    · exact ⟨w, ⟨hw, h⟩, .rfl⟩
    · obtain ⟨u, x, t, s⟩ := to_strike H hw h
      have hl := t.length
      have hs := s.length
      obtain ⟨y, ry, dy⟩ := ih x.length (by omega) rfl (s.lt (t.lt hw))
      exact ⟨y, ry, t.down.trans (.strike s dy)⟩
/-- and to each shortest one that does the same -/
theorem tits (H : OKc n c) {w u : List Nat} (hw : Lt n w) (hu : Red n c u) (e : Eqv n c w u) : Down n c w u := by
  obtain ⟨x, rx, dx⟩ := tits_one H _ rfl hw
  exact dx.trans (matsumoto H _ rfl rx hu ((dx.eqv H).symm.trans e)).down
/-- words that do the same are as long but for a multiple of two -/
theorem parity (H : OKc n c) {w u : List Nat} (hw : Lt n w) (hu : Lt n u) (e : Eqv n c w u) : w.length % 2 = u.length % 2 := by
  obtain ⟨x, rx, ex⟩ := red_exists (c := c) hw
  rw [(tits H hw rx ex).par, (tits H hu rx (e.symm.trans ex)).par]
/-- two letters too many -/
theorem deletion (H : OKc n c) {w : List Nat} (hw : Lt n w) (h : len n c w ≠ w.length) : ∃ a s b t d, w = a ++ s :: b ++ t :: d ∧ Eqv n c w (a ++ b ++ d) := by
  obtain ⟨p, s, q, e, rp, nr⟩ := first_long hw h
  have hs : s < n := hw s (by simp [e])
  obtain ⟨a, t, b, e1, e2⟩ := exchange H rp.1 hs (not_red_neg H rp hs nr)
  refine ⟨a, t, b, s, q, by rw [e, e1], ?_⟩
  have : Eqv n c (p ++ [s] ++ q) (a ++ b ++ q) := .app e2 .rfl
  rw [e]
  simpa using this
end
end Cox
set_option linter.all false
namespace Cox
/-! ### two letters by turns, so many times -/
def rep (t : Nat) : List Bool := (List.replicate t [true, false]).flatten
theorem rep_succ (t : Nat) : rep (t + 1) = [true, false] ++ rep t := rfl
theorem rep_zero : rep 0 = [] := rfl
theorem rep_req {p q : Int} (h : OKp p q) (hm : mOf p q ≠ 0) : Req p q (rep (mOf p q)) [] := by
  intro A B z
  obtain ⟨x, y⟩ := z
  cases h with
  | a => exact Prod.ext (by simp [mOf, rep, run, step]; try omega) (by simp [mOf, rep, run, step]; try omega)
  | b => exact Prod.ext (by simp [mOf, rep, run, step]; try omega) (by simp [mOf, rep, run, step]; try omega)
  | c => exact Prod.ext (by simp [mOf, rep, run, step]; try omega) (by simp [mOf, rep, run, step]; try omega)
  | d => exact Prod.ext (by simp [mOf, rep, run, step]; try omega) (by simp [mOf, rep, run, step]; try omega)
  | e => exact Prod.ext (by simp [mOf, rep, run, step]; try omega) (by simp [mOf, rep, run, step]; try omega)
  | f => exact Prod.ext (by simp [mOf, rep, run, step]; try omega) (by simp [mOf, rep, run, step]; try omega)
  | g => exact absurd (by decide) hm
theorem rep_inf : ∀ t : Nat, run 0 0 2 2 (rep t) (1, 0) = (2 * (t : Int) + 1, 2 * (t : Int))
  | 0 => rfl
  | t + 1 => by
    have ih := rep_inf t
    rw [rep_succ, run_app, ih]
    simp [run, step]
    omega
theorem rep_ne {p q : Int} (h : OKp p q) {t : Nat} (h1 : 1 ≤ t) (h2 : mOf p q = 0 ∨ t < mOf p q) : run 0 0 p q (rep t) (1, 0) ≠ (1, 0) := by
  cases h with
  | a =>
    have : t < 2 := by simpa [mOf] using h2
    match t, h1, this with
    | 1, _, _ => decide
  | b =>
    have : t < 3 := by simpa [mOf] using h2
    match t, h1, this with
    | 1, _, _ | 2, _, _ => decide
  | c =>
    have : t < 4 := by simpa [mOf] using h2
    match t, h1, this with
    | 1, _, _ | 2, _, _ | 3, _, _ => decide
  | d =>
    have : t < 4 := by simpa [mOf] using h2
    match t, h1, this with
    | 1, _, _ | 2, _, _ | 3, _, _ => decide
  | e =>
    have : t < 6 := by simpa [mOf] using h2
    match t, h1, this with
    | 1, _, _ | 2, _, _ | 3, _, _ | 4, _, _ | 5, _, _ => decide
  | f =>
    have : t < 6 := by simpa [mOf] using h2
    match t, h1, this with
    | 1, _, _ | 2, _, _ | 3, _, _ | 4, _, _ | 5, _, _ => decide
  | g =>
    rw [rep_inf]
    intro h
    injection h with h3 h4
    omega
section
variable {n : Nat} {c : Nat → Nat → Int}
def pw (w : List Nat) (t : Nat) : List Nat := (List.replicate t w).flatten
theorem pw_succ (w : List Nat) (t : Nat) : pw w (t + 1) = w ++ pw w t := rfl
theorem pw_wd (s t : Nat) : ∀ k, pw [s, t] k = wd s t (rep k)
  | 0 => rfl
  | k + 1 => by rw [pw_succ, rep_succ, wd_app, pw_wd s t k]; rfl
theorem pw_len (w : List Nat) (t : Nat) : (pw w t).length = t * w.length := by
  induction t with
  | zero => simp [pw]
  | succ t ih => rw [pw_succ, List.length_append, ih, Nat.succ_mul]; omega
theorem pw_lt {w : List Nat} (hw : Lt n w) : ∀ t, Lt n (pw w t)
  | 0 => .nil
  | t + 1 => hw.app (pw_lt hw t)
/-- two letters by turns, as often as told, are nothing -/
theorem two_home (H : OKc n c) {s t : Nat} (hs : s < n) (ht : t < n) (hst : s ≠ t) (hm : mOf (c s t) (c t s) ≠ 0) : Eqv n c (pw [s, t] (mOf (c s t) (c t s))) [] := by
  rw [pw_wd]
  exact (rep_req (H s t hs ht hst) hm).eqv hs ht hst
/-- and not before -/
theorem two_away (H : OKc n c) {s t : Nat} (hs : s < n) (ht : t < n) (hst : s ≠ t) {k : Nat} (h1 : 1 ≤ k) (h2 : mOf (c s t) (c t s) = 0 ∨ k < mOf (c s t) (c t s)) : act n c (pw [s, t] k) (alpha s) ≠ alpha s := by
  rw [pw_wd, act_wd_alpha hs ht hst]
  have := rep_ne (H s t hs ht hst) h1 h2
  generalize run 0 0 (c s t) (c t s) (rep k) (1, 0) = z at *
  intro e
  have e1 := congrFun e s
  have e2 := congrFun e t
  simp only [lin, alpha_self, alpha_other (Ne.symm hst), alpha_other hst] at e1 e2
  apply this
  exact Prod.ext (by dsimp only; omega) (by dsimp only; omega)
/-- a rule put in anywhere -/
theorem Eqv.put {w r : List Nat} (p q : List Nat) (h : Eqv n c r []) : Eqv n c (p ++ r ++ q) (p ++ q) := by
  have : Eqv n c (p ++ r ++ q) (p ++ [] ++ q) := .app (.app .rfl h) .rfl
  simpa using this
theorem eqv_iff {w u : List Nat} (hw : Lt n w) (hu : Lt n u) : Eqv n c w u ↔ ∀ s, s < n → ∀ k, k < n → act n c w (alpha s) k = act n c u (alpha s) k := by
  constructor
  · intro h s _ k _; rw [h]
  · intro h
    refine eqv_of_alpha hw hu fun s hs => ?_
    funext k
    by_cases hk : k < n
    · exact h s hs k hk
    · rw [act_low hw _ (by omega), act_low hu _ (by omega)]
end
end Cox
set_option linter.all false
namespace Cox
/-! ### the rows that a word turns -/
section
variable {n : Nat} {c : Nat → Nat → Int}
def absV (v : Vec) : Vec := fun k => if v k < 0 then - v k else v k
def Hi (v : Vec) : Prop := ∀ k, 0 ≤ v k
def Lo (v : Vec) : Prop := ∀ k, v k ≤ 0
def negV (v : Vec) : Vec := fun k => - v k
theorem absV_up {v : Vec} (h : Hi v) : absV v = v := by
  funext k
  have := h k
  simp only [absV]
  rw [if_neg (by omega)]
theorem absV_dn {v : Vec} (h : Lo v) : absV v = negV v := by
  funext k
  have := h k
  simp only [absV, negV]
  by_cases h0 : v k < 0
  · rw [if_pos h0]
  · rw [if_neg h0]; omega
theorem absV_is_up (v : Vec) : Hi (absV v) := fun k => by
  simp only [absV]
  split <;> omega
theorem act_neg (w : List Nat) (v : Vec) : act n c w (negV v) = negV (act n c w v) := by
  have e : negV v = lin (-1) v 0 v := by funext k; simp [negV, lin]
  rw [e, act_lin]
  funext k
  simp [negV, lin]
theorem negV_negV (v : Vec) : negV (negV v) = v := by funext k; simp [negV]
/-- a root: a single row sent by a word -/
def Root (n : Nat) (c : Nat → Nat → Int) (v : Vec) : Prop := ∃ u s, Lt n u ∧ s < n ∧ v = act n c u (alpha s)
theorem Root.act {v : Vec} (h : Root n c v) {w : List Nat} (hw : Lt n w) : Root n c (act n c w v) := by
  obtain ⟨u, s, hu, hs, rfl⟩ := h
  exact ⟨w ++ u, s, hw.app hu, hs, by rw [act_append]⟩
theorem Root.alpha {s : Nat} (hs : s < n) : Root n c (alpha s) := ⟨[], s, .nil, hs, rfl⟩
theorem Root.neg {v : Vec} (h : Root n c v) : Root n c (negV v) := by
  obtain ⟨u, s, hu, hs, rfl⟩ := h
  refine ⟨u ++ [s], s, hu.app (.one hs), hs, ?_⟩
  funext k
  rw [act_snoc_alpha]
  rfl
theorem Root.sign (H : OKc n c) {v : Vec} (h : Root n c v) : Hi v ∨ Lo v := by
  obtain ⟨u, s, hu, hs, rfl⟩ := h
  exact root_sign H hu hs
theorem Root.not_both {v : Vec} (h : Root n c v) (h1 : Hi v) (h2 : Lo v) : False := by
  obtain ⟨u, s, hu, hs, rfl⟩ := h
  exact Cox.not_both h1 h2
theorem Root.supp {v : Vec} (h : Root n c v) {k : Nat} (hk : n ≤ k) : v k = 0 := by
  obtain ⟨u, s, hu, hs, rfl⟩ := h
  rw [act_low hu _ hk, alpha_other (by omega)]
theorem Root.absV (H : OKc n c) {v : Vec} (h : Root n c v) : Root n c (absV v) := by
  rcases h.sign H with q | q
  · rw [absV_up q]; exact h
  · rw [absV_dn q]; exact h.neg
/-- what one letter turns -/
theorem turned_alpha {v : Vec} (h : Root n c v) {s : Nat} (hs : s < n) (h1 : Hi v) (h2 : Lo (refl n c s v)) : v = alpha s := by
  obtain ⟨u, t, hu, ht, rfl⟩ := h
  exact turned_one h1 h2
theorem refl_alpha_dn (s : Nat) : Lo (refl n c s (alpha s)) := fun k => by
  rw [refl_alpha]
  simp only [lin]
  by_cases h : k = s
  · subst h; rw [alpha_self]; omega
  · rw [alpha_other h]; omega
def rts (n : Nat) (c : Nat → Nat → Int) : List Nat → List Vec
  | [] => []
  | s :: q => act n c q.reverse (alpha s) :: rts n c q
theorem rts_len : ∀ w : List Nat, (rts n c w).length = w.length
  | [] => rfl
  | s :: q => by simp [rts, rts_len q]
theorem rts_root : ∀ {w : List Nat}, Lt n w → ∀ v ∈ rts n c w, Root n c v
  | [], _, v, h => by simp [rts] at h
  | s :: q, hw, v, h => by
    have hq : Lt n q := fun i hi => hw i (by simp [hi])
    simp only [rts, List.mem_cons] at h
    rcases h with rfl | h
    · exact ⟨q.reverse, s, hq.rev, hw s (by simp), rfl⟩
    · exact rts_root hq v h
theorem rts_at : ∀ (p : List Nat) (s : Nat) (q : List Nat), (rts n c (p ++ s :: q))[p.length]? = some (act n c q.reverse (alpha s))
  | [], s, q => rfl
  | a :: p, s, q => by
    show (rts n c (a :: (p ++ s :: q)))[p.length + 1]? = _
    simp only [rts, List.getElem?_cons_succ]
    exact rts_at p s q
/-- how often, by twos -/
def Odd (v : Vec) : List Vec → Prop
  | [] => False
  | r :: rs => (absV r = v ∧ ¬ Odd v rs) ∨ (absV r ≠ v ∧ Odd v rs)
theorem turned_iff (H : OKc n c) : ∀ {w : List Nat}, Lt n w → ∀ {v : Vec}, Root n c v → Hi v → (Lo (act n c w v) ↔ Odd v (rts n c w))
  | [], _, v, hr, hu => by
    simp only [rts, Odd, iff_false, act_nil]
    exact fun h => hr.not_both hu h
  | s :: q, hw, v, hr, hu => by
    have hq : Lt n q := fun i hi => hw i (by simp [hi])
    have hs : s < n := hw s (by simp)
    have ih := turned_iff H hq hr hu
    have rg : Root n c (act n c q v) := hr.act hq
    have rs : Root n c (act n c q.reverse (alpha s)) := (Root.alpha hs).act hq.rev
    simp only [rts, Odd]
    rw [← ih, act_cons]
    have key : absV (act n c q.reverse (alpha s)) = v ↔ (act n c q v = alpha s ∨ act n c q v = negV (alpha s)) := by
      constructor
      · intro h
        rcases rs.sign H with z | z
        · rw [absV_up z] at h
          rw [← h, act_rev']
          exact .inl rfl
        · rw [absV_dn z] at h
          rw [← h, act_neg, act_rev']
          exact .inr rfl
      · rintro (h | h)
        · have : act n c q.reverse (alpha s) = v := by rw [← h, act_rev]
          rw [this, absV_up hu]
        · have : act n c q.reverse (alpha s) = negV v := by
            have h2 : alpha s = negV (act n c q v) := by rw [h, negV_negV]
            rw [h2, act_neg, act_rev]
          rw [this]
          have hd : Lo (negV v) := fun k => by
            have := hu k
            simp only [negV]
            omega
          rw [absV_dn hd, negV_negV]
    have au : Hi (alpha s) := fun k => by
      by_cases h : k = s
      · subst h; rw [alpha_self]; omega
      · rw [alpha_other h]; omega
    rcases rg.sign H with z | z
    · -- above
      have nd : ¬ Lo (act n c q v) := fun d => rg.not_both z d
      constructor
      · intro d
        have e := turned_alpha rg hs z d
        exact .inl ⟨key.mpr (.inl e), nd⟩
      · rintro (⟨h, _⟩ | ⟨_, h⟩)
        · rcases key.mp h with e | e
          · rw [e]; exact refl_alpha_dn s
          · exfalso
            have := z s
            rw [e] at this
            simp only [negV, alpha_self] at this
            omega
        · exact absurd h nd
    · -- below
      have hn : Hi (negV (act n c q v)) := fun k => by
        have := z k
        simp only [negV]
        omega
      have rn := rg.neg
      have e1 : refl n c s (negV (act n c q v)) = negV (refl n c s (act n c q v)) := act_neg (n := n) (c := c) [s] _
      have e2 : Root n c (refl n c s (act n c q v)) := rg.act (.one hs)
      constructor
      · intro d
        refine .inr ⟨fun h => ?_, z⟩
        rcases key.mp h with e | e
        · have := z s
          rw [e, alpha_self] at this
          omega
        · have := d s
          rw [e] at this
          have e3 : refl n c s (negV (alpha s)) = negV (refl n c s (alpha s)) := act_neg (n := n) (c := c) [s] _
          rw [e3, refl_alpha] at this
          simp only [negV, lin, alpha_self] at this
          omega
      · rintro (⟨_, h⟩ | ⟨h, _⟩)
        · exact absurd z h
        · rcases e2.sign H with y | y
          · exfalso
            apply h
            refine key.mpr (.inr ?_)
            have d : Lo (refl n c s (negV (act n c q v))) := fun k => by
              rw [e1]
              have := y k
              simp only [negV]
              omega
            have e := turned_alpha rn hs hn d
            rw [← e, negV_negV]
          · exact y
/-- the rows of a shortest word are above, and all other -/
theorem red_rts_up (H : OKc n c) : ∀ {w : List Nat}, Red n c w → ∀ v ∈ rts n c w, Hi v
  | [], _, v, h => by simp [rts] at h
  | s :: q, hw, v, h => by
    have hq : Red n c q := Red.right (w := [s]) hw
    simp only [rts, List.mem_cons] at h
    rcases h with rfl | h
    · have hr : Red n c (q.reverse ++ [s]) := by
        have := hw.rev
        rwa [List.reverse_cons] at this
      have hs : s < n := hw.1 s (by simp)
      rcases dich H hr.left.1 hs with d | d
      · exact d.2
      · exfalso
        have h1 := d.1
        rw [hr.2, hr.left.2, List.length_append] at h1
        simp at h1
        omega
    · exact red_rts_up H hq v h
theorem rts_mem : ∀ {w : List Nat} {v : Vec}, v ∈ rts n c w → ∃ p s q, w = p ++ s :: q ∧ v = act n c q.reverse (alpha s)
  | [], v, h => by simp [rts] at h
  | s :: q, v, h => by
    simp only [rts, List.mem_cons] at h
    rcases h with rfl | h
    · exact ⟨[], s, q, rfl, rfl⟩
    · obtain ⟨p, t, r, e, e2⟩ := rts_mem h
      exact ⟨s :: p, t, r, by rw [e]; rfl, e2⟩
theorem red_rts_nodup (H : OKc n c) : ∀ {w : List Nat}, Red n c w → (rts n c w).Pairwise (· ≠ ·)
  | [], _ => List.Pairwise.nil
  | s :: q, hw => by
    have hq : Red n c q := Red.right (w := [s]) hw
    refine List.pairwise_cons.mpr ⟨fun v hv e => ?_, red_rts_nodup H hq⟩
    obtain ⟨p, t, r, eq, ev⟩ := rts_mem hv
    -- act q' (alpha s) = act r' (alpha t), q = p t r
    subst eq
    rw [ev, List.reverse_append, List.reverse_cons, List.append_assoc, act_append] at e
    have e2 : act n c ([t] ++ p.reverse) (alpha s) = alpha t := act_inj e
    have e3 : act n c p.reverse (alpha s) = negV (alpha t) := by
      have h2 := congrArg (refl n c t) e2
      rw [act_append, act_cons, act_nil, refl_refl, refl_alpha] at h2
      rw [h2]
      funext k
      simp [lin, negV]
    have hsp : Red n c (s :: p) := by
      have : Red n c ((s :: p) ++ (t :: r)) := hw
      exact this.left
    have up := red_rts_up H hsp (act n c p.reverse (alpha s)) (by simp [rts])
    have := up t
    rw [e3] at this
    simp only [negV, alpha_self] at this
    omega
end
end Cox
set_option linter.all false
/-! Cosets by lots of letters: the shortest element between two lots is the only one that no letter of them shortens. -/
namespace Cox
section
variable {n : Nat} {c : Nat → Nat → Int}
def Sub (J : List Nat) (w : List Nat) : Prop := ∀ i ∈ w, i ∈ J
theorem Sub.nil {J : List Nat} : Sub J [] := fun _ h => by simp at h
theorem Sub.app {J w u : List Nat} (h : Sub J w) (h' : Sub J u) : Sub J (w ++ u) := fun i hi => (List.mem_append.mp hi).elim (h i) (h' i)
theorem Sub.rev {J w : List Nat} (h : Sub J w) : Sub J w.reverse := fun i hi => h i (List.mem_reverse.mp hi)
theorem Sub.left {J w u : List Nat} (h : Sub J (w ++ u)) : Sub J w := fun i hi => h i (List.mem_append.mpr (.inl hi))
theorem Sub.right {J w u : List Nat} (h : Sub J (w ++ u)) : Sub J u := fun i hi => h i (List.mem_append.mpr (.inr hi))
theorem act_supp {J w : List Nat} (h : Sub J w) {v : Vec} (hv : ∀ k, k ∉ J → v k = 0) : ∀ k, k ∉ J → act n c w v k = 0 := by
  induction w with
  | nil => exact hv
  | cons i w ih =>
    intro k hk
    have hi : k ≠ i := fun e => hk (e ▸ h i List.mem_cons_self)
    rw [act_cons]
    unfold refl
    rw [if_neg hi]
    exact ih (fun j hj => h j (List.mem_cons_of_mem _ hj)) k hk
theorem cut_nonneg {w : List Nat} {v : Vec} (hv : ∀ k, 0 ≤ v k) (h : ∀ j, v j ≠ 0 → ∀ k, 0 ≤ act n c w (alpha j) k) : ∀ m k, 0 ≤ act n c w (cut m v) k
  | 0, k => by
    have e : cut 0 v = lin 0 v 0 v := by funext j; simp [cut, lin]
    rw [e, act_lin]
    simp [lin]
  | m + 1, k => by
    rw [cut_succ, act_lin]
    have h1 := cut_nonneg (w := w) hv h m k
    simp only [lin]
    by_cases hz : v m = 0
    · rw [hz]; omega
    · have h2 := Int.mul_nonneg (hv m) (h m hz k)
      omega
theorem act_nonneg {w : List Nat} {v : Vec} (hs : ∀ k, n ≤ k → v k = 0) (hv : ∀ k, 0 ≤ v k) (h : ∀ j, v j ≠ 0 → ∀ k, 0 ≤ act n c w (alpha j) k) (k : Nat) : 0 ≤ act n c w v k := by
  have e : v = cut n v := by
    funext j
    unfold cut
    split
    · rfl
    · exact hs j (by omega)
  rw [e]
  exact cut_nonneg hv h n k
/-- where a root's side is changed by a part of a word -/
theorem flip (H : OKc n c) {z : List Nat} (hz : Lt n z) {s : Nat} (hs : s < n) (h1 : ∀ k, 0 ≤ act n c z (alpha s) k) : ∀ {a : List Nat}, Lt n a → (∀ k, act n c (a ++ z) (alpha s) k ≤ 0) → ∃ p t q, a = p ++ t :: q ∧ Eqv n c (a ++ z ++ [s]) (p ++ q ++ z)
  | [], ha, h2 => (not_both h1 h2).elim
  | t :: a, ha, h2 => by
    have ht : t < n := ha t List.mem_cons_self
    have ha' : Lt n a := fun i hi => ha i (List.mem_cons_of_mem _ hi)
    rcases root_sign H (ha'.app hz) hs with h3 | h3
    · have e := turned_one h3 (t := t) (by simpa using h2)
      have cj := conj H (ha'.app hz) hs ht e
      refine ⟨[], t, a, rfl, ?_⟩
      have e1 : Eqv n c (t :: (a ++ z ++ [s])) (t :: (t :: (a ++ z))) := fun v => by rw [act_cons, act_cons, cj v]
      have e2 : Eqv n c (t :: (t :: (a ++ z))) (a ++ z) := fun v => by rw [act_cons, act_cons, refl_refl]
      simpa using e1.trans e2
    · obtain ⟨p, u, q, e, h4⟩ := flip H hz hs h1 ha' h3
      refine ⟨t :: p, u, q, by rw [e]; rfl, ?_⟩
      intro v
      have := h4 v
      simp only [List.cons_append, act_cons]
      rw [this]
/-- no letter of J shortens from behind -/
def Rest (n : Nat) (c : Nat → Nat → Int) (J w : List Nat) : Prop := ∀ s ∈ J, s < n → ¬ ∀ k, act n c w (alpha s) k ≤ 0
theorem Rest.eqv {J w u : List Nat} (h : Rest n c J w) (e : Eqv n c w u) : Rest n c J u := fun s hs hn hx => h s hs hn fun k => by rw [e]; exact hx k
theorem dbl_step (H : OKc n c) {J a x b y : List Nat} (ha : Lt n a) (hx : Lt n x) (hb : Lt n b) (hJ : Sub J b) (e : Eqv n c y (a ++ x ++ b)) (rx : Rest n c J x) (ry : Rest n c J y) (hne : b ≠ []) :
    ∃ a' b', Lt n a' ∧ Lt n b' ∧ (∀ i ∈ a', i ∈ a) ∧ Sub J b' ∧ a'.length + b'.length < a.length + b.length ∧ Eqv n c y (a' ++ x ++ b') := by
  obtain ⟨b', t, rfl⟩ : ∃ b' t, b = b' ++ [t] := by
    rcases snoc_cases b with h | ⟨i, x, h⟩
    · exact absurd h hne
    · exact ⟨i, x, h⟩
  have ht : t < n := hb t (by simp)
  have htJ : t ∈ J := hJ t (by simp)
  have hb' := hb.left
  have hJ' := hJ.left
  rcases root_sign H hb' ht with h1 | h1
  · -- b' keeps the root above
    have h2 : ∀ k, 0 ≤ act n c (x ++ b') (alpha t) k := by
      intro k
      rw [act_append]
      refine act_nonneg (fun j hj => ?_) h1 (fun j hj => ?_) k
      · rw [act_low hb' _ hj]
        exact alpha_other (by omega)
      · have hjJ : j ∈ J := Classical.byContradiction fun hn => hj (act_supp hJ' (fun i hi => alpha_other fun (z : i = t) => hi (by rw [z]; exact htJ)) j hn)
        have hjn : j < n := Classical.byContradiction fun hn => hj (by rw [act_low hb' _ (by omega)]; exact alpha_other (by omega))
        rcases root_sign H hx hjn with q | q
        · exact q
        · exact absurd q (rx j hjJ hjn)
    have h3 : ∀ k, act n c (a ++ (x ++ b')) (alpha t) k ≤ 0 := by
      have hy := ry t htJ ht
      have e3 : ∀ k, act n c y (alpha t) k = - act n c (a ++ (x ++ b')) (alpha t) k := fun k => by
        rw [e, show a ++ x ++ (b' ++ [t]) = (a ++ (x ++ b')) ++ [t] by simp, act_snoc_alpha]
      rcases root_sign H (ha.app (hx.app hb')) ht with q | q
      · exact absurd (fun k => by rw [e3]; have := q k; omega) hy
      · exact q
    obtain ⟨p, u, q, ea, e4⟩ := flip H (hx.app hb') ht h2 ha h3
    have hpq : Lt n (p ++ q) := fun i hi => ha i (by rw [ea]; rcases List.mem_append.mp hi with h | h <;> simp [h])
    refine ⟨p ++ q, b', hpq, hb', fun i hi => by rw [ea]; rcases List.mem_append.mp hi with h | h <;> simp [h], hJ', ?_, ?_⟩
    · rw [ea]; simp; omega
    · refine e.trans ?_
      have : a ++ x ++ (b' ++ [t]) = a ++ (x ++ b') ++ [t] := by simp
      rw [this]
      have : p ++ q ++ x ++ b' = p ++ q ++ (x ++ b') := by simp
      rw [this]
      exact e4
  · -- a letter of b' may go
    obtain ⟨p, u, q, ea, e4⟩ := flip H (z := []) .nil ht (fun k => by rw [act_nil]; unfold alpha; split <;> omega) hb' (by simpa using h1)
    have hpq : Lt n (p ++ q) := fun i hi => hb' i (by rw [ea]; rcases List.mem_append.mp hi with h | h <;> simp [h])
    refine ⟨a, p ++ q, ha, hpq, fun i hi => hi, fun i hi => hJ' i (by rw [ea]; rcases List.mem_append.mp hi with h | h <;> simp [h]), ?_, ?_⟩
    · rw [ea]; simp; omega
    · refine e.trans ?_
      have e5 : Eqv n c (b' ++ [t]) (p ++ q) := by simpa using e4
      exact Eqv.app .rfl e5
/-- there is one element alone between the lots that no letter of them shortens -/
theorem dbl_uniq (H : OKc n c) {I J x y : List Nat} (hx : Lt n x) (hy : Lt n y) (rx : Rest n c J x) (ry : Rest n c J y) (lx : Rest n c I x.reverse) (ly : Rest n c I y.reverse) : ∀ (k : Nat) {a b : List Nat}, a.length + b.length ≤ k → Lt n a → Lt n b → Sub I a → Sub J b → Eqv n c y (a ++ x ++ b) → Eqv n c y x := by
  intro k
  induction k with
  | zero =>
    intro a b hk _ _ _ _ e
    have h1 : a = [] := List.eq_nil_of_length_eq_zero (by omega)
    have h2 : b = [] := List.eq_nil_of_length_eq_zero (by omega)
    subst h1 h2
    simpa using e
  | succ k ih =>
    intro a b hk ha hb hI hJ e
    by_cases hbn : b = []
    · by_cases han : a = []
      · subst han hbn
        simpa using e
      · subst hbn
        have er : Eqv n c y.reverse (([] : List Nat) ++ x.reverse ++ a.reverse) := by
          have := e.rev
          simpa using this
        obtain ⟨a', b', la, lb, sa, sb, hl, e'⟩ := dbl_step H .nil hx.rev ha.rev hI.rev er lx ly (by simpa using han)
        have ea : a' = [] := by
          cases a' with
          | nil => rfl
          | cons i r => exact absurd (sa i List.mem_cons_self) (by simp)
        subst ea
        have e2 := e'.rev
        refine ih (a := b'.reverse) (b := []) ?_ lb.rev .nil sb.rev .nil (by simpa using e2)
        simp only [List.length_nil, List.length_reverse] at hl hk ⊢
        omega
    · obtain ⟨a', b', la, lb, sa, sb, hl, e'⟩ := dbl_step H ha hx hb hJ e rx ry hbn
      exact ih (by omega) la lb (fun i hi => hI i (sa i hi)) sb e'
/-! a word of a lot's letters stays one, however it is led down -/
theorem mOf_two {p q : Int} (h : mOf p q ≠ 0) : true ∈ alt (mOf p q) true ∧ false ∈ alt (mOf p q) true := by
  have : mOf p q = 2 ∨ mOf p q = 3 ∨ mOf p q = 4 ∨ mOf p q = 6 := by
    unfold mOf at h ⊢
    split at h <;> first | (split at h <;> first | (split at h <;> first | (split at h <;> simp_all) | simp_all) | simp_all) | simp_all
  rcases this with e | e | e | e <;> rw [e] <;> decide
theorem Turn.sub {J w u : List Nat} (h : Turn n c w u) (hw : Sub J w) : Sub J u := by
  obtain ⟨p, q, hs, ht, hst, hm⟩ := h
  rename_i s t
  obtain ⟨m1, m2⟩ := mOf_two hm
  have q1 := hw.left.right
  have hsJ : ∀ b : Bool, (if b = true then s else t) ∈ J := fun b => by
    cases b with
    | true => exact q1 _ (List.mem_map.mpr ⟨true, m1, by rfl⟩)
    | false => exact q1 _ (List.mem_map.mpr ⟨false, m2, by rfl⟩)
  refine (hw.left.left.app fun i hi => ?_).app hw.right
  obtain ⟨b, _, rfl⟩ := List.mem_map.mp hi
  exact hsJ b
theorem Strike.sub {J w u : List Nat} (h : Strike w u) (hw : Sub J w) : Sub J u := by
  obtain ⟨p, q, s⟩ := h
  exact hw.left.app fun i hi => hw.right i (by simp [hi])
theorem Down.sub {J w u : List Nat} (h : Down n c w u) (hw : Sub J w) : Sub J u := by
  induction h with
  | rfl => exact hw
  | turn t _ ih => exact ih (t.sub hw)
  | strike t _ ih => exact ih (t.sub hw)
/-- the shortest words of an element of a lot's part have that lot's letters alone -/
theorem red_sub (H : OKc n c) {J w u : List Nat} (hw : Lt n w) (hJ : Sub J w) (hu : Red n c u) (e : Eqv n c w u) : Sub J u := (tits H hw hu e).sub hJ
/-! taking letters off from behind, one after the other -/
theorem lo_len (H : OKc n c) {q : List Nat} (hq : Lt n q) {s : Nat} (hs : s < n) (h : Lo (act n c q (alpha s))) : len n c (q ++ [s]) + 1 = len n c q := by
  rcases dich H hq hs with ⟨_, h1⟩ | ⟨h1, _⟩
  · exact (not_both h1 h).elim
  · exact h1
theorem none_len (H : OKc n c) {q : List Nat} (hq : Lt n q) (h : ∀ s, s < n → ¬ Lo (act n c q (alpha s))) : Eqv n c q [] := by
  obtain ⟨u, ru, eu⟩ := red_exists (c := c) hq
  rcases snoc_cases u with h1 | ⟨i, s, h1⟩
  · rw [h1] at eu; exact eu
  · subst h1
    refine absurd (fun k => ?_) (h s (ru.1 s (by simp)))
    rw [eu]
    exact end_neg H ru k
/-- letters taken off from behind, the least first -/
inductive Greedy (n : Nat) (c : Nat → Nat → Int) : List Nat → List Nat → Prop
  | nil {q} : (∀ s, s < n → ¬ Lo (act n c q (alpha s))) → Greedy n c q []
  | cons {q s x} : s < n → Lo (act n c q (alpha s)) → (∀ t, t < s → ¬ Lo (act n c q (alpha t))) → Greedy n c (q ++ [s]) x → Greedy n c q (s :: x)
theorem Greedy.spec (H : OKc n c) {q x : List Nat} (h : Greedy n c q x) : Lt n q → Lt n x ∧ Eqv n c (q ++ x) [] ∧ len n c q = x.length := by
  induction h with
  | nil h =>
    intro hq
    have e := none_len H hq h
    refine ⟨.nil, by simpa using e, ?_⟩
    rw [len_eqv hq .nil e]
    exact Red.nil.2
  | @cons q s x hs hl hm _ ih =>
    intro hq
    obtain ⟨h1, h2, h3⟩ := ih (hq.app (.one hs))
    refine ⟨fun i hi => ?_, by simpa using h2, ?_⟩
    · rcases List.mem_cons.mp hi with rfl | hi
      · exact hs
      · exact h1 i hi
    · have := lo_len H hq hs hl
      rw [List.length_cons, ← h3]
      omega
theorem rev_of {q u : List Nat} (e : Eqv n c (q ++ u) []) : Eqv n c q u.reverse := by
  have h1 : Eqv n c (q ++ u ++ u.reverse) u.reverse := by
    have := Eqv.app e (Eqv.rfl (w := u.reverse))
    simpa using this
  have h2 : Eqv n c (q ++ (u ++ u.reverse)) (q ++ []) := Eqv.app .rfl (Eqv.revr u)
  have h3 : Eqv n c (q ++ u ++ u.reverse) q := by simpa using h2
  exact h3.symm.trans h1
end
end Cox
set_option Elab.async false
set_option linter.all false
set_option maxRecDepth 100000
namespace Dn
open PySem L2
/-! ### what adds dead cells alone -/
def Gr (m m' : Mu) : Prop := ∃ k, m' = m ++ List.replicate k Cell.dead
theorem Gr.refl {m : Mu} : Gr m m := ⟨0, by simp⟩
theorem Gr.trans {a b c : Mu} (h : Gr a b) (h' : Gr b c) : Gr a c := by
  obtain ⟨j, rfl⟩ := h
  obtain ⟨k, rfl⟩ := h'
  exact ⟨j + k, by rw [List.append_assoc, List.replicate_append_replicate]⟩
theorem Gr.dead {m : Mu} : Gr m (m ++ [Cell.dead]) := ⟨1, rfl⟩
theorem Gr.get {m m' : Mu} (h : Gr m m') {i : Nat} {c : Cell} (e : m[i]? = some c) : m'[i]? = some c := by
  obtain ⟨k, rfl⟩ := h
  rw [List.getElem?_append_left (mu_lt e)]
  exact e
theorem Gr.stay {m m' : Mu} (h : Gr m m') {r : Nat} : Stay r m m' := fun i c _ e => h.get e
theorem Gr.len {m m' : Mu} (h : Gr m m') : m.length ≤ m'.length := by
  obtain ⟨k, rfl⟩ := h
  simp
/-- whatever the cells are: the value b -/
def Pu {β : Type} (t : Mu → Rs β) (b : β) : Prop := ∀ m, ∃ m', t m = .ok b m' ∧ Gr m m'
theorem Pu.of {β : Type} {t : Mu → Rs β} {b : β} (h : ∀ m, t m = .ok b m) : Pu t b := fun m => ⟨m, h m, .refl⟩
/-! ### comprehensions -/
/-- the items' values f d, kept where p d; each step may add dead cells -/
theorem comp_gr {g : G2f} {tt : Dl → Mu → Rs Bool} {te : Dl → Mu → Rs D} {δ : Dl} {p : D → Bool} {f : D → D} : ∀ {ds : List D},
    (∀ d ∈ ds, ∀ m, ∃ δ' m', g d δ m = .ok δ' m ∧ tt δ' m = .ok (p d) m' ∧ Gr m m' ∧ (p d = true → ∃ m'', te δ' m' = .ok (f d) m'' ∧ Gr m' m'')) → ∀ m, ∃ m', comp2 g tt te δ ds m = .ok ((ds.filter p).map f) m' ∧ Gr m m'
  | [], _, m => ⟨m, rfl, .refl⟩
  | d :: ds, h, m => by
    obtain ⟨δ', m1, h1, h2, g1, h3⟩ := h d List.mem_cons_self m
    by_cases hp : p d = true
    · obtain ⟨m2, h4, g2⟩ := h3 hp
      obtain ⟨m3, h5, g3⟩ := comp_gr (ds := ds) (fun x hx => h x (List.mem_cons_of_mem _ hx)) m2
      refine ⟨m3, ?_, g1.trans (g2.trans g3)⟩
      simp only [comp2, h1, Rs.nx_ok, h2, hp, if_pos, h4, h5, List.filter_cons_of_pos hp, List.map_cons]
    · have hp' : p d = false := by simpa using hp
      obtain ⟨m3, h5, g3⟩ := comp_gr (ds := ds) (fun x hx => h x (List.mem_cons_of_mem _ hx)) m1
      refine ⟨m3, ?_, g1.trans g3⟩
      simp only [comp2, h1, Rs.nx_ok, h2, hp', Bool.false_eq_true, if_false, h5, List.filter_cons_of_neg hp]
/-- no test -/
theorem comp_map {g : G2f} {te : Dl → Mu → Rs D} {δ : Dl} {f : D → D} {ds : List D}
    (h : ∀ d ∈ ds, ∀ m, ∃ δ' m', g d δ m = .ok δ' m ∧ te δ' m = .ok (f d) m' ∧ Gr m m') (m : Mu) : ∃ m', comp2 g yes2 te δ ds m = .ok (ds.map f) m' ∧ Gr m m' := by
  obtain ⟨m', h1, h2⟩ := comp_gr (tt := yes2) (p := fun _ => true) (f := f) (g := g) (te := te) (δ := δ) (ds := ds) (fun d hd m => by
    obtain ⟨δ', m', a, b, c⟩ := h d hd m
    exact ⟨δ', m, a, rfl, .refl, fun _ => ⟨m', b, c⟩⟩) m
  refine ⟨m', ?_, h2⟩
  rw [h1, List.filter_eq_self.mpr fun _ _ => rfl]
/-- no cell is touched -/
theorem comp_pure {g : G2f} {tt : Dl → Mu → Rs Bool} {te : Dl → Mu → Rs D} {δ : Dl} {p : D → Bool} {f : D → D} {m : Mu} : ∀ {ds : List D},
    (∀ d ∈ ds, ∃ δ', g d δ m = .ok δ' m ∧ tt δ' m = .ok (p d) m ∧ (p d = true → te δ' m = .ok (f d) m)) → comp2 g tt te δ ds m = .ok ((ds.filter p).map f) m
  | [], _ => rfl
  | d :: ds, h => by
    obtain ⟨δ', h1, h2, h3⟩ := h d List.mem_cons_self
    have h5 := comp_pure (ds := ds) (fun x hx => h x (List.mem_cons_of_mem _ hx))
    by_cases hp : p d = true
    · simp only [comp2, h1, Rs.nx_ok, h2, hp, if_pos, h3 hp, h5, List.filter_cons_of_pos hp, List.map_cons]
    · have hp' : p d = false := by simpa using hp
      simp only [comp2, h1, Rs.nx_ok, h2, hp', Bool.false_eq_true, if_false, h5, List.filter_cons_of_neg hp]
theorem comp_mapP {g : G2f} {te : Dl → Mu → Rs D} {δ : Dl} {f : D → D} {m : Mu} {ds : List D} (h : ∀ d ∈ ds, ∃ δ', g d δ m = .ok δ' m ∧ te δ' m = .ok (f d) m) : comp2 g yes2 te δ ds m = .ok (ds.map f) m := by
  have := comp_pure (tt := yes2) (p := fun _ => true) (f := f) (g := g) (te := te) (δ := δ) (m := m) (ds := ds) (fun d hd => by
    obtain ⟨δ', a, b⟩ := h d hd
    exact ⟨δ', a, rfl, fun _ => b⟩)
  rw [this, List.filter_eq_self.mpr fun _ _ => rfl]
/-- a step that changes cells: what is kept of them, and of each value -/
theorem comp_inv {g : G2f} {te : Dl → Mu → Rs D} {δ : Dl} {I : Mu → Prop} {R : D → D → Prop} : ∀ {ds : List D},
    (∀ d ∈ ds, ∀ m, I m → ∃ δ' m' y, g d δ m = .ok δ' m ∧ te δ' m = .ok y m' ∧ I m' ∧ R d y) → ∀ m, I m → ∃ m' ys, comp2 g yes2 te δ ds m = .ok ys m' ∧ I m' ∧ ys.length = ds.length ∧ ∀ (i : Nat) (d y : D), ds[i]? = some d → ys[i]? = some y → R d y
  | [], _, m, hI => ⟨m, [], rfl, hI, rfl, fun i d y h => by simp at h⟩
  | d :: ds, h, m, hI => by
    obtain ⟨δ', m1, y, h1, h2, i1, r1⟩ := h d List.mem_cons_self m hI
    obtain ⟨m2, ys, h3, i2, hl, hr⟩ := comp_inv (ds := ds) (fun x hx => h x (List.mem_cons_of_mem _ hx)) m1 i1
    refine ⟨m2, y :: ys, ?_, i2, by simp [hl], fun i d' y' e e' => ?_⟩
    · simp only [comp2, h1, Rs.nx_ok, yes2_ap, if_pos, h2, h3]
    · cases i with
      | zero => cases e; cases e'; exact r1
      | succ i => exact hr i d' y' (by simpa using e) (by simpa using e')
/-! ### loops -/
/-- a loop whose body goes on: I i δ m holds ahead of the i-th item -/
theorem for_inv {g : G2f} {tb : Dl → Mu → Ro} {I : Nat → Dl → Mu → Prop} {ds : List D}
    (h : ∀ i d δ m, ds[i]? = some d → I i δ m → ∃ δ' m', (match g d δ m with | .ok δ m => tb δ m | _ => .bad) = .next δ' m' ∧ I (i + 1) δ' m') : ∀ δ m, I 0 δ m → ∃ δ' m', for2 g tb ds δ m = .next δ' m' ∧ I ds.length δ' m' := by
  suffices ∀ (es : List D) (i : Nat), ds.drop i = es → ∀ δ m, I i δ m → ∃ δ' m', for2 g tb es δ m = .next δ' m' ∧ I (i + es.length) δ' m' by
    intro δ m hI
    have := this ds 0 rfl δ m hI
    simpa using this
  intro es
  induction es with
  | nil => intro i _ δ m hI; exact ⟨δ, m, rfl, by simpa using hI⟩
  | cons d es ih =>
    intro i hi δ m hI
    have hd : ds[i]? = some d := by
      have : (ds.drop i)[0]? = some d := by rw [hi]; rfl
      simpa using this
    obtain ⟨δ', m', e, hI'⟩ := h i d δ m hd hI
    have hi2 : ds.drop (i + 1) = es := by
      have : (ds.drop i).drop 1 = es := by rw [hi]; rfl
      rw [← this, List.drop_drop]
    obtain ⟨δ2, m2, e2, hI2⟩ := ih (i + 1) hi2 δ' m' hI'
    refine ⟨δ2, m2, ?_, by rw [List.length_cons, Nat.add_comm es.length 1, ← Nat.add_assoc]; exact hI2⟩
    unfold for2
    cases hg : g d δ m with
    | ok δ1 m1 =>
      rw [hg] at e
      dsimp only at e ⊢
      rw [e]
      exact e2
    | exc c ns vs m1 => rw [hg] at e; cases e
    | bad => rw [hg] at e; cases e
/-! ### lists -/
theorem range_map_set {α : Type} (n i : Nat) (f : Nat → α) (x : α) (h : i < n) : ((List.range n).map f).take i ++ x :: ((List.range n).map f).drop (i + 1) = (List.range n).map fun k => if k = i then x else f k := by
  apply List.ext_getElem?
  intro k
  by_cases h1 : k < i
  · rw [List.getElem?_append_left (by simp; omega)]
    rw [List.getElem?_take_of_lt h1]
    simp only [List.getElem?_map]
    by_cases h2 : k < n
    · simp [h2, Nat.ne_of_lt h1]
    · omega
  · rw [List.getElem?_append_right (by simp; omega)]
    have hl : (((List.range n).map f).take i).length = i := by simp; omega
    rw [hl]
    by_cases h2 : k = i
    · subst h2
      simp [h]
    · obtain ⟨j, hj⟩ : ∃ j, k - i = j + 1 := ⟨k - i - 1, by omega⟩
      rw [hj]
      have hk : k = i + 1 + j := by omega
      subst hk
      simp only [List.getElem?_cons_succ, List.getElem?_drop, List.getElem?_map]
      by_cases h3 : i + 1 + j < n
      · simp [h3, h2]
      · simp [h3]
theorem zip_range {α β γ : Type} (n : Nat) (f : Nat → α) (g : Nat → β) (h : α → β → γ) : List.zipWith h ((List.range n).map f) ((List.range n).map g) = (List.range n).map fun k => h (f k) (g k) := by
  rw [List.zipWith_map]
  rw [List.zipWith_self]
theorem cut_take {α : Type} (xs : List α) (i : Nat) (h : i ≤ xs.length) : cutL xs none (some (i : Int)) = xs.take i := by
  unfold cutL
  have h0 : HT.sIx xs.length 0 none = 0 := rfl
  have h1 : HT.sIx xs.length xs.length (some (i : Int)) = i := by
    unfold HT.sIx
    dsimp only
    split <;> omega
  rw [h0, h1]
  simp
theorem cut_drop {α : Type} (xs : List α) (i : Nat) : cutL xs (some (i : Int)) none = xs.drop i := by
  unfold cutL
  have h1 : HT.sIx xs.length xs.length none = xs.length := rfl
  have h0 : HT.sIx xs.length 0 (some (i : Int)) = min i xs.length := by
    unfold HT.sIx
    dsimp only
    split <;> omega
  rw [h0, h1]
  by_cases h : i ≤ xs.length
  · rw [Nat.min_eq_left h]
    exact List.take_of_length_le (by simp)
  · rw [Nat.min_eq_right (by omega), List.drop_length, List.drop_eq_nil_of_le (by omega), List.take_nil]
theorem intsFrom_nat (n : Nat) : intsFrom 0 n = (List.range n).map fun (i : Nat) => D.int (i : Int) := by
  unfold intsFrom
  exact List.map_congr_left fun i _ => by simp
theorem p62 : (2 : Int) ^ 62 = 4611686018427387904 := by decide +kernel
theorem p64 : (2 : Int) ^ 64 = 18446744073709551616 := by decide +kernel
theorem small62_of {i : Int} (h : -1000000000 ≤ i) (h' : i ≤ 1000000000) : small62 i = true := by
  unfold small62
  rw [p62]
  exact decide_eq_true ⟨by omega, by omega⟩
theorem small62_nat {k : Nat} (h : k ≤ 1000000) : small62 (k : Int) = true := small62_of (by omega) (by omega)
theorem small64_of {i : Int} (h : -1000000000 ≤ i) (h' : i ≤ 1000000000) : small64 i = true := by
  unfold small64
  rw [p64]
  rw [Bool.and_eq_true]
  exact ⟨decide_eq_true (by omega), decide_eq_true (by omega)⟩
theorem blsOf_fn {α : Type} (f : α → Bool) (l : List α) : blsOf (l.map fun x => D.bl (f x)) = some (l.map f) := by
  have : (l.map fun x => D.bl (f x)) = (l.map f).map D.bl := by rw [List.map_map]; rfl
  rw [this, blsOf_map]
theorem intsOf_fn {α : Type} (f : α → Int) (l : List α) : intsOf (l.map fun x => D.int (f x)) = some (l.map f) := by
  have : (l.map fun x => D.int (f x)) = (l.map f).map D.int := by rw [List.map_map]; rfl
  rw [this, intsOf_map]
theorem strsOf_fn {α : Type} (f : α → Cs) (l : List α) : strsOf (l.map fun x => D.str (f x)) = some (l.map f) := by
  have : (l.map fun x => D.str (f x)) = (l.map f).map D.str := by rw [List.map_map]; rfl
  rw [this, strsOf_map]
theorem zipIdx_map {α β : Type} (f : Nat → α) (g : α × Nat → β) (n : Nat) : (((List.range n).map f).zipIdx).map g = (List.range n).map fun k => g (f k, k) := by
  apply List.ext_getElem?
  intro i
  simp only [List.getElem?_map, List.getElem?_zipIdx]
  by_cases h : i < n
  · simp [h]
  · simp [h]
end Dn
set_option Elab.async false
set_option linter.all false
set_option maxRecDepth 100000
namespace Dn
open PySem L2
/-! ### numbers in lists and tuples: how long they show -/
/-- plain signs: no quote, no backslash -/
def PlainC (x : Cs) : Prop := ∀ c ∈ x, 32 ≤ c ∧ c < 127 ∧ c ≠ 39 ∧ c ≠ 92
inductive Sh (K : Nat) : Nat → Nat → D → Prop
  | non : 3 ≤ K → Sh K 0 (K + 1) .non
  | bl {b : Bool} : 4 ≤ K → Sh K 0 (K + 1) (.bl b)
  | str {x : Cs} : PlainC x → x.length + 1 ≤ K → Sh K 0 (K + 1) (.str x)
  | int {i : Int} : i.natAbs < 2 ^ K → Sh K 0 (K + 1) (.int i)
  | lst {ds : List D} {c w : Nat} : (∀ d ∈ ds, Sh K c w d) → Sh K (c + 1) (3 + ds.length * (w + 2)) (.lst ds)
  | tup {ds : List D} {c w : Nat} : (∀ d ∈ ds, Sh K c w d) → Sh K (c + 1) (3 + ds.length * (w + 2)) (.tup ds)
theorem pds_le {ds : List D} {c : Nat} (h : ∀ d ∈ ds, ∃ n, d.pd = some n ∧ n ≤ c) : ∃ n, D.pds ds = some n ∧ n ≤ c := by
  induction ds with
  | nil => exact ⟨0, rfl, Nat.zero_le _⟩
  | cons d ds ih =>
    obtain ⟨a, h1, h2⟩ := h d List.mem_cons_self
    obtain ⟨b, h3, h4⟩ := ih fun x hx => h x (List.mem_cons_of_mem _ hx)
    exact ⟨max a b, by simp [D.pds, h1, h3], by omega⟩
theorem PlainC.ok {x : Cs} (h : PlainC x) : x.all (· < 1114112) = true := by
  rw [List.all_eq_true]
  intro c hc
  have := h c hc
  simp
  omega
theorem rc_plain : ∀ c < 127, 32 ≤ c → c ≠ 39 → c ≠ 92 → Builtin.Str.reprChar 39 c = [c] := by decide +kernel
theorem repr_fold : ∀ (x : Cs) (a : Array Nat), PlainC x → (List.foldl (fun out c => out ++ (Builtin.Str.reprChar 39 c).toArray) a x).toList = a.toList ++ x
  | [], a, _ => by simp
  | c :: x, a, h => by
    have hc := h c (by simp)
    rw [List.foldl_cons, repr_fold x _ fun k hk => h k (by simp [hk]), rc_plain c hc.2.1 hc.1 hc.2.2.1 hc.2.2.2]
    simp
theorem repr_plain {x : Cs} (h : PlainC x) : (reprText (toS x)).cps.toList = 39 :: x ++ [39] := by
  have hq : reprQuote (toS x) = 39 := by
    unfold reprQuote
    have : (toS x).cps.contains 39 = false := by
      have : ¬ (39 ∈ x) := fun z => (h 39 z).2.2.1 rfl
      simpa [toS] using this
    rw [this]
    rfl
  unfold reprText
  rw [hq]
  show (Array.push (Array.foldl (fun out c => out ++ (Builtin.Str.reprChar 39 c).toArray) #[39] x.toArray) 39).toList = _
  rw [Array.toList_push, ← Array.foldl_toList, repr_fold x _ h]
  simp
theorem Sh.pd {K c w : Nat} {d : D} (h : Sh K c w d) : ∃ n, d.pd = some n ∧ n ≤ c := by
  induction h with
  | non _ => exact ⟨0, rfl, Nat.le_refl _⟩
  | bl _ => exact ⟨0, rfl, Nat.le_refl _⟩
  | str h _ => exact ⟨0, by simp only [D.pd, h.ok, if_pos], Nat.le_refl _⟩
  | int _ => exact ⟨0, rfl, Nat.le_refl _⟩
  | lst _ ih =>
    obtain ⟨n, h1, h2⟩ := pds_le ih
    exact ⟨n + 1, by simp [D.pd, h1], by omega⟩
  | tup _ ih =>
    obtain ⟨n, h1, h2⟩ := pds_le ih
    exact ⟨n + 1, by simp [D.pd, h1], by omega⟩
theorem eqs_refl {ds : List D} (h : ∀ d ∈ ds, D.eq d d = true) : D.eqs ds ds = true := by
  induction ds with
  | nil => rfl
  | cons d ds ih =>
    simp only [D.eqs, h d List.mem_cons_self, ih fun x hx => h x (List.mem_cons_of_mem _ hx), Bool.and_self]
theorem Sh.eq_refl {K c w : Nat} {d : D} (h : Sh K c w d) : D.eq d d = true := by
  induction h with
  | non _ => rfl
  | bl _ => simp [D.eq]
  | str _ _ => simp [D.eq]
  | int _ => simp [D.eq]
  | lst _ ih => simp only [D.eq, eqs_refl ih]
  | tup _ ih => simp only [D.eq, eqs_refl ih]
theorem Sh.showable {K c w : Nat} {d : D} (hK : K ≤ 1900) (h : Sh K c w d) : d.py.showable = true := by
  have all : ∀ {ds : List D}, (∀ d ∈ ds, d.py.showable = true) → PyData.showableAll (D.pys ds) = true := by
    intro ds
    induction ds with
    | nil => intro _; rfl
    | cons d ds ih =>
      intro h
      simp only [D.pys, PyData.showableAll, h d List.mem_cons_self, ih fun x hx => h x (List.mem_cons_of_mem _ hx), Bool.and_self]
  induction h with
  | non _ => rfl
  | bl _ => rfl
  | str _ _ => rfl
  | @int i hi =>
    simp only [D.py, PyData.showable]
    refine decide_eq_true ?_
    by_cases h0 : i.natAbs = 0
    · rw [h0]; decide
    · have h1 := Nat.log2_self_le h0
      refine Classical.byContradiction fun hn => ?_
      have h2 : (2 : Nat) ^ K ≤ 2 ^ i.natAbs.log2 := Nat.pow_le_pow_right (by decide) (by omega)
      omega
  | lst _ ih => simp only [D.py, PyData.showable, all ih]
  | tup _ ih => simp only [D.py, PyData.showable, all ih]
theorem textFrom_le : ∀ (ts : List Str) (k : Nat) (acc : Str), (textFrom k acc ts).length ≤ acc.length + piled ts
  | [], k, acc => by show acc.length ≤ acc.length + _; omega
  | t :: ts, k, acc => by
    have h := textFrom_le ts (k + 1) (acc ++ (if k > 0 then ", " else "" : String) ++ t)
    have e : (acc ++ (if k > 0 then ", " else "" : String) ++ t).length ≤ acc.length + 2 + t.length := by
      rw [strLen_append, strLen_append]
      have : ((Str.ofString (if k > 0 then ", " else "" : String))).length ≤ 2 := by split <;> decide +kernel
      exact Nat.add_le_add_right (Nat.add_le_add_left this _) _
    rw [piled_cons]
    show (textFrom (k + 1) (acc ++ (if k > 0 then ", " else "" : String) ++ t) ts).length ≤ _
    omega
theorem listText_le (ts : List Str) : (listText ts).length ≤ piled ts + 2 := by
  unfold listText
  rw [strLen_append]
  have h := textFrom_le ts 0 "["
  have e1 : ((("[" : String) : Str)).length = 1 := by decide +kernel
  have e2 : ((("]" : String) : Str)).length = 1 := by decide +kernel
  omega
theorem tupleText_le (ts : List Str) : (tupleText ts).length ≤ piled ts + 3 := by
  unfold tupleText
  rw [strLen_append, strLen_append]
  have e1 : ((("(" : String) : Str)).length = 1 := by decide +kernel
  have e3 : (((if ts.length == 1 then ",)" else ")" : String) : Str)).length ≤ 2 := by split <;> decide +kernel
  by_cases h : ts = []
  · subst h
    have : (Str.join ", " []).length = 0 := by decide +kernel
    omega
  · have := join_length_add ts h
    omega
theorem Sh.short {K c w : Nat} {d : D} (hK : 1 ≤ K) (h : Sh K c w d) : d.py.shown.length ≤ w := by
  have all : ∀ {ds : List D} {w : Nat}, (∀ d ∈ ds, d.py.shown.length ≤ w) → piled (PyData.shownAll (D.pys ds)) ≤ ds.length * (w + 2) := by
    intro ds w
    induction ds with
    | nil => intro _; exact Nat.zero_le _
    | cons d ds ih =>
      intro h
      have h1 := h d List.mem_cons_self
      have h2 := ih fun x hx => h x (List.mem_cons_of_mem _ hx)
      simp only [D.pys, PyData.shownAll]
      rw [piled_cons, List.length_cons, Nat.succ_mul]
      omega
  induction h with
  | non h =>
    have : (D.non.py.shown).length = 4 := by decide +kernel
    omega
  | @bl b h =>
    have : ((D.bl b).py.shown).length ≤ 5 := by cases b <;> decide +kernel
    omega
  | @str x h hl =>
    simp only [D.py, PyData.shown]
    have := congrArg List.length (repr_plain h)
    simp at this
    show (reprText (toS x)).cps.size ≤ _
    omega
  | @int i hi =>
    simp only [D.py, PyData.shown]
    have h1 : i.natAbs.log2 < K := by
      by_cases h0 : i.natAbs = 0
      · rw [h0]; exact Nat.lt_of_lt_of_le (by decide) hK
      · exact (Nat.log2_lt h0).mpr hi
    have h2 := int_text_length_le (by omega) h1
    show (Str.ofString (toString i)).length ≤ K + 1
    rw [ofString_length]
    exact h2
  | lst _ ih =>
    simp only [D.py, PyData.shown]
    exact Nat.le_trans (listText_le _) (by have := all ih; omega)
  | tup _ ih =>
    simp only [D.py, PyData.shown]
    exact Nat.le_trans (tupleText_le _) (by have := all ih; omega)
/-- such data shows -/
theorem Sh.repr {K c w : Nat} {d : D} {m : Mu} (h : Sh K c w d) (hr : look m d = d) (hK : 1 ≤ K) (hK2 : K ≤ 1900) (hc : c ≤ 60) (hw : w ≤ SZ) : reprD [d] m = .ok (.str (reprC d)) m := by
  obtain ⟨n, h1, h2⟩ := h.pd
  have h3 := h.showable hK2
  have h4 : (reprC d).length ≤ SZ := by
    have := h.short hK
    have e : (reprC d).length = d.py.shown.length := rfl
    omega
  unfold reprD
  dsimp only
  rw [hr, h1]
  dsimp only
  rw [if_pos ⟨by omega, h3, h4⟩]
theorem Sh.eqB {K c w : Nat} {d : D} {m : Mu} (h : Sh K c w d) (hr : look m d = d) (hc : c ≤ 60) : eqB m d d = some true := by
  obtain ⟨n, h1, h2⟩ := h.pd
  rw [eqB_of_pd m d d (by rw [hr]; exact h1) (by rw [hr]; exact h1) (by omega) (by omega), hr, h.eq_refl]
/-! what shows is text -/
def OkS (x : Str) : Prop := ∀ c ∈ x.cps.toList, c < 1114112
theorem OkS.lit (s : String) : OkS (Str.ofString s) := by
  intro c hc
  rw [Str.ofString_eq_toList] at hc
  obtain ⟨k, _, rfl⟩ := List.mem_map.mp hc
  exact k.valid.elim (fun h => Nat.lt_trans h (by decide)) fun h => h.2
theorem OkS.app {x y : Str} (h : OkS x) (h' : OkS y) : OkS (x ++ y) := by
  intro c hc
  have e : (x ++ y).cps.toList = x.cps.toList ++ y.cps.toList := by
    show (x.cps ++ y.cps).toList = _
    simp
  rw [e] at hc
  exact (List.mem_append.mp hc).elim (h c) (h' c)
theorem OkS.textFrom : ∀ {ts : List Str} {k : Nat} {acc : Str}, OkS acc → (∀ t ∈ ts, OkS t) → OkS (textFrom k acc ts)
  | [], _, _, h, _ => h
  | t :: ts, k, acc, h, ht => OkS.textFrom (ts := ts) ((h.app (OkS.lit _)).app (ht t List.mem_cons_self)) fun x hx => ht x (List.mem_cons_of_mem _ hx)
theorem OkS.join : ∀ {ts : List Str}, (∀ t ∈ ts, OkS t) → OkS (Str.join ", " ts)
  | [], _ => OkS.lit ""
  | [t], h => h t List.mem_cons_self
  | t :: u :: ts, h => ((h t List.mem_cons_self).app (OkS.lit ", ")).app (OkS.join (ts := u :: ts) fun x hx => h x (List.mem_cons_of_mem _ hx))
theorem Sh.text {K c w : Nat} {d : D} (h : Sh K c w d) : OkS d.py.shown := by
  have all : ∀ {ds : List D}, (∀ d ∈ ds, OkS d.py.shown) → ∀ t ∈ PyData.shownAll (D.pys ds), OkS t := by
    intro ds
    induction ds with
    | nil => intro _ t ht; simp [D.pys, PyData.shownAll] at ht
    | cons d ds ih =>
      intro h t ht
      simp only [D.pys, PyData.shownAll, List.mem_cons] at ht
      rcases ht with rfl | ht
      · exact h d List.mem_cons_self
      · exact ih (fun x hx => h x (List.mem_cons_of_mem _ hx)) t ht
  induction h with
  | non _ => simp only [D.py, PyData.shown]; exact OkS.lit _
  | bl _ =>
    simp only [D.py, PyData.shown]
    split <;> exact OkS.lit _
  | @str x h _ =>
    simp only [D.py, PyData.shown]
    intro c hc
    rw [repr_plain h] at hc
    have : c = 39 ∨ c ∈ x := by
      simp at hc
      rcases hc with h | h | h
      · exact .inl h
      · exact .inr h
      · exact .inl h
    rcases this with h2 | h2
    · omega
    · have := h c h2
      omega
  | int _ => simp only [D.py, PyData.shown]; exact OkS.lit _
  | lst _ ih =>
    simp only [D.py, PyData.shown]
    exact (OkS.textFrom (OkS.lit _) (all ih)).app (OkS.lit _)
  | tup _ ih =>
    simp only [D.py, PyData.shown]
    exact ((OkS.lit _).app (OkS.join (all ih))).app (OkS.lit _)
theorem Sh.eqR {K c w : Nat} {d : D} {m : Mu} (h : Sh K c w d) : Dn.eqB m (.str (reprC d)) (.str (reprC d)) = some true := by
  have h1 : (reprC d).all (· < 1114112) = true := by
    rw [List.all_eq_true]
    exact fun c hc => decide_eq_true (h.text c hc)
  rw [eqB_ss m _ _ h1 h1]
  simp
end Dn
set_option Elab.async false
set_option linter.all false
set_option maxRecDepth 100000
/-! Br1: mirrors as plain data: angles, numbers, weights; how they lie as values. -/
namespace Br
open Dn Cox
abbrev Ang := Nat × Nat × Int
def num (A : List Ang) (x y : Nat) : Int := if x = y then 1 else match A.find? (fun a => a.1 == min x y && a.2.1 == max x y) with
  | some a => a.2.2
  | none => 2
def ones (k : Int) : Int × Int := if k = 2 then (0, 0) else if k = 3 then (1, 1) else if k = 4 then (1, 2) else if k = 6 then (1, 3) else (2, 2)
def wt (A : List Ang) (x y : Nat) : Int := if x < y then (ones (num A x y)).1 else (ones (num A x y)).2
def ltA (a b : Ang) : Bool := a.1 < b.1 || (a.1 == b.1 && a.2.1 < b.2.1)
structure Good (n : Nat) (A : List Ang) : Prop where
  n1 : 1 ≤ n
  n6 : n ≤ 6
  lt : ∀ a ∈ A, a.1 < a.2.1 ∧ a.2.1 < n
  nu : ∀ a ∈ A, a.2.2 = 3 ∨ a.2.2 = 4 ∨ a.2.2 = 6 ∨ a.2.2 = 0
  asc : A.Pairwise fun a b => ltA a b = true
theorem num_comm (A : List Ang) (x y : Nat) : num A x y = num A y x := by
  unfold num
  rw [Nat.min_comm, Nat.max_comm]
  by_cases h : x = y
  · rw [if_pos h, if_pos h.symm]
  · rw [if_neg h, if_neg (Ne.symm h)]
theorem num_in {n : Nat} {A : List Ang} (G : Good n A) {x y : Nat} (h : x ≠ y) : num A x y = 2 ∨ num A x y = 3 ∨ num A x y = 4 ∨ num A x y = 6 ∨ num A x y = 0 := by
  unfold num
  rw [if_neg h]
  split
  · rename_i a ha
    exact .inr (G.nu a (List.mem_of_find?_eq_some ha))
  · exact .inl rfl
theorem okc {n : Nat} {A : List Ang} (G : Good n A) : OKc n (wt A) := by
  intro i j _ _ h
  have hn := num_in G h
  unfold wt
  rw [num_comm A j i]
  by_cases hl : i < j
  · rw [if_pos hl, if_neg (by omega)]
    rcases hn with e | e | e | e | e <;> rw [e]
    · exact .a
    · exact .b
    · exact .c
    · exact .e
    · exact .g
  · rw [if_neg hl, if_pos (by omega)]
    rcases hn with e | e | e | e | e <;> rw [e]
    · exact .a
    · exact .b
    · exact .d
    · exact .f
    · exact .g
theorem wt_bound {n : Nat} {A : List Ang} (G : Good n A) {i j : Nat} (h : i ≠ j) : 0 ≤ wt A i j ∧ wt A i j ≤ 3 := by
  have hn := num_in G h
  unfold wt
  rcases hn with e | e | e | e | e <;> rw [e] <;> split <;> simp [ones]
/-! as values -/
def lc (i : Nat) : Cs := [97 + i]
abbrev Lt1 (i : Nat) : D := .str (lc i)
def wc (w : List Nat) : Cs := w.map (97 + ·)
abbrev Wrd (w : List Nat) : D := .str (wc w)
def angD (a : Ang) : D := .tup [Lt1 a.1, Lt1 a.2.1, .int a.2.2]
def mir (n : Nat) (A : List Ang) : D := .ins "Mirrors" ["size", "angles"] [.int n, .tup (A.map angD)]
theorem mir_eq (n : Nat) (A : List Ang) : mir n A = .ins "Mirrors" ["size", "angles"] [.int n, .tup (A.map angD)] := (rfl)
theorem angD_eq (a : Ang) : angD a = .tup [Lt1 a.1, Lt1 a.2.1, .int a.2.2] := (rfl)
def rowL (n : Nat) (v : Vec) : List D := (List.range n).map fun k => .int (v k)
abbrev RowD (n : Nat) (v : Vec) : D := .tup (rowL n v)
def w0 (A : List Ang) (i j : Nat) : Int := if j = i then 0 else wt A i j
def wrow (n : Nat) (A : List Ang) (i : Nat) : D := .lst ((List.range n).map fun j => .int (w0 A i j))
def wall (n : Nat) (A : List Ang) : D := .lst ((List.range n).map fun i => wrow n A i)
/-- which letter a value is -/
def offL : D → Nat
  | .str [c] => c - 97
  | _ => 0
@[simp] theorem offL_lt (i : Nat) : offL (Lt1 i) = i := by show 97 + i - 97 = i; omega
@[simp] theorem look_mir (m : Mu) (n : Nat) (A : List Ang) : look m (mir n A) = mir n A := (rfl)
@[simp] theorem fldK_size (m : Mu) (n : Nat) (A : List Ang) : fldK ["Mirrors"] "size" m (mir n A) = .ok (.int n) m := by rw [mir_eq]; simp
@[simp] theorem fldK_angles (m : Mu) (n : Nat) (A : List Ang) : fldK ["Mirrors"] "angles" m (mir n A) = .ok (.tup (A.map angD)) m := by rw [mir_eq]; simp
@[simp] theorem propK_mir (m : Mu) (n : Nat) (A : List Ang) (F : FnD) : propK [("Mirrors", F)] (mir n A) m (mir n A) = (F [mir n A] m).nx fun d m => .ok d m := (rfl)
@[simp] theorem isK_mir (m : Mu) (n : Nat) (A : List Ang) : isK ["Mirrors"] m (.glo "Mirrors") (mir n A) = .ok (.bl true) m := by rw [mir_eq]; simp
theorem rowL_len (n : Nat) (v : Vec) : (rowL n v).length = n := by simp [rowL]
theorem rowL_get {n : Nat} {v : Vec} {k : Nat} (h : k < n) : (rowL n v)[k]? = some (.int (v k)) := by simp [rowL, h]
theorem rowL_congr {n : Nat} {v u : Vec} (h : ∀ k, k < n → v k = u k) : rowL n v = rowL n u := List.map_congr_left fun k hk => by rw [h k (List.mem_range.mp hk)]
theorem rowL_inj {n : Nat} {v u : Vec} (h : rowL n v = rowL n u) : ∀ k, k < n → v k = u k := fun k hk => by
  have := rowL_get (v := v) hk
  rw [h, rowL_get hk] at this
  injection this with this
  injection this with this
  exact this.symm
theorem sum_range (n : Nat) (f : Nat → Int) : ((List.range n).map f).sum = Cox.sumTo n f := by
  induction n with
  | zero => rfl
  | succ n ih => rw [List.range_succ, List.map_append, List.sum_append, ih]; simp [Cox.sumTo]
theorem intsOf_range (n : Nat) (f : Nat → Int) : intsOf ((List.range n).map fun k => D.int (f k)) = some ((List.range n).map f) := by
  have : ((List.range n).map fun k => D.int (f k)) = ((List.range n).map f).map D.int := by rw [List.map_map]; rfl
  rw [this, intsOf_map]
end Br
set_option Elab.async false
set_option linter.all false
set_option maxRecDepth 100000
namespace Dn
open PySem L2
/-! ### plain values (no bools): equal just if they are the same -/
inductive Nm : Nat → D → Prop
  | non {c : Nat} : Nm c .non
  | int {c : Nat} {i : Int} : Nm c (.int i)
  | str {c : Nat} {x : Cs} : x.all (· < 1114112) = true → Nm c (.str x)
  | lst {c : Nat} {ds : List D} : (∀ d ∈ ds, Nm c d) → Nm (c + 1) (.lst ds)
  | tup {c : Nat} {ds : List D} : (∀ d ∈ ds, Nm c d) → Nm (c + 1) (.tup ds)
theorem Nm.pd {c : Nat} {d : D} (h : Nm c d) : ∃ n, d.pd = some n ∧ n ≤ c := by
  induction h with
  | non => exact ⟨0, rfl, Nat.zero_le _⟩
  | int => exact ⟨0, rfl, Nat.zero_le _⟩
  | str h => exact ⟨0, by simp only [D.pd, h, if_pos], Nat.zero_le _⟩
  | lst _ ih =>
    obtain ⟨n, h1, h2⟩ := pds_le ih
    exact ⟨n + 1, by simp [D.pd, h1], by omega⟩
  | tup _ ih =>
    obtain ⟨n, h1, h2⟩ := pds_le ih
    exact ⟨n + 1, by simp [D.pd, h1], by omega⟩
theorem eqs_iff {ds es : List D} (h : ∀ d ∈ ds, ∀ e ∈ es, (D.eq d e = true ↔ d = e)) : D.eqs ds es = true ↔ ds = es := by
  induction ds generalizing es with
  | nil => cases es <;> simp [D.eqs]
  | cons d ds ih =>
    cases es with
    | nil => simp [D.eqs]
    | cons e es =>
      simp only [D.eqs, Bool.and_eq_true, List.cons.injEq]
      rw [h d List.mem_cons_self e List.mem_cons_self, ih fun x hx y hy => h x (List.mem_cons_of_mem _ hx) y (List.mem_cons_of_mem _ hy)]
theorem Nm.eq_iff {c : Nat} {d : D} (h : Nm c d) : ∀ {c' : Nat} {e : D}, Nm c' e → (D.eq d e = true ↔ d = e) := by
  induction h with
  | non => intro c' e h'; cases h' <;> simp [D.eq]
  | int => intro c' e h'; cases h' <;> simp [D.eq]
  | str h => intro c' e h'; cases h' <;> simp [D.eq]
  | lst _ ih =>
    intro c' e h'
    cases h' with
    | lst h2 => simp only [D.eq, D.lst.injEq]; exact eqs_iff fun d hd e he => ih d hd (h2 e he)
    | _ => simp [D.eq]
  | tup _ ih =>
    intro c' e h'
    cases h' with
    | tup h2 => simp only [D.eq, D.tup.injEq]; exact eqs_iff fun d hd e he => ih d hd (h2 e he)
    | _ => simp [D.eq]
theorem Nm.look {c : Nat} {d : D} (h : Nm c d) (m : Mu) : look m d = d := by cases h <;> rfl
theorem Nm.eqB_t {c c' : Nat} {d e : D} {m : Mu} (h : Nm c d) (h' : Nm c' e) (hc : c ≤ 60) (hc' : c' ≤ 60) (he : d = e) : eqB m d e = some true := by
  obtain ⟨n, h1, h2⟩ := h.pd
  obtain ⟨k, h3, h4⟩ := h'.pd
  rw [eqB_of_pd m d e (a := n) (b := k) (by rw [h.look]; exact h1) (by rw [h'.look]; exact h3) (by omega) (by omega), h.look, h'.look, (h.eq_iff h').mpr he]
theorem Nm.eqB_f {c c' : Nat} {d e : D} {m : Mu} (h : Nm c d) (h' : Nm c' e) (hc : c ≤ 60) (hc' : c' ≤ 60) (he : d ≠ e) : eqB m d e = some false := by
  obtain ⟨n, h1, h2⟩ := h.pd
  obtain ⟨k, h3, h4⟩ := h'.pd
  rw [eqB_of_pd m d e (a := n) (b := k) (by rw [h.look]; exact h1) (by rw [h'.look]; exact h3) (by omega) (by omega), h.look, h'.look]
  cases hq : D.eq d e with
  | false => rfl
  | true => exact absurd ((h.eq_iff h').mp hq) he
open Classical in
theorem Nm.eqB_d {c c' : Nat} {d e : D} {m : Mu} (h : Nm c d) (h' : Nm c' e) (hc : c ≤ 60) (hc' : c' ≤ 60) : eqB m d e = some (decide (d = e)) := by
  by_cases he : d = e
  · rw [h.eqB_t h' hc hc' he, decide_eq_true he]
  · rw [h.eqB_f h' hc hc' he, decide_eq_false he]
theorem Nm.mono {c c' : Nat} {d : D} (h : Nm c d) (hc : c ≤ c') : Nm c' d := by
  induction h generalizing c' with
  | non => exact .non
  | int => exact .int
  | str h => exact .str h
  | lst _ ih =>
    obtain ⟨k, rfl⟩ : ∃ k, c' = k + 1 := ⟨c' - 1, by omega⟩
    exact .lst fun d hd => ih d hd (by omega)
  | tup _ ih =>
    obtain ⟨k, rfl⟩ : ∃ k, c' = k + 1 := ⟨c' - 1, by omega⟩
    exact .tup fun d hd => ih d hd (by omega)
end Dn
set_option Elab.async false
set_option linter.all false
set_option maxRecDepth 100000
namespace Dn
open PySem L2
/-! ### loops that may come back early; comprehensions over told lists -/
/-- what one pass does -/
def pass (g : G2f) (tb : Dl → Mu → Ro) (d : D) (δ : Dl) (m : Mu) : Ro := match g d δ m with | .ok δ m => tb δ m | _ => .bad
/-- a loop over the values p a: each pass keeps I or comes back with R; S: what holds behind a break -/
theorem for_ret {α : Type} {p : α → D} {g : G2f} {tb : Dl → Mu → Ro} {I : Nat → Dl → Mu → Prop} {R : D → Mu → Prop} {S : Dl → Mu → Prop} {l : List α}
    (h : ∀ i a δ m, l[i]? = some a → I i δ m → (∃ δ' m', (pass g tb (p a) δ m = .next δ' m' ∨ pass g tb (p a) δ m = .cnt δ' m') ∧ I (i + 1) δ' m') ∨ (∃ δ' m', pass g tb (p a) δ m = .brk δ' m' ∧ S δ' m') ∨ ∃ v m', pass g tb (p a) δ m = .ret v m' ∧ R v m') :
    ∀ δ m, I 0 δ m → (∃ δ' m', for2 g tb (l.map p) δ m = .next δ' m' ∧ (I l.length δ' m' ∨ S δ' m')) ∨ ∃ v m', for2 g tb (l.map p) δ m = .ret v m' ∧ R v m' := by
  suffices ∀ (es : List α) (i : Nat), l.drop i = es → ∀ δ m, I i δ m → (∃ δ' m', for2 g tb (es.map p) δ m = .next δ' m' ∧ (I (i + es.length) δ' m' ∨ S δ' m')) ∨ ∃ v m', for2 g tb (es.map p) δ m = .ret v m' ∧ R v m' by
    intro δ m hI
    have := this l 0 rfl δ m hI
    simpa using this
  intro es
  induction es with
  | nil => intro i _ δ m hI; exact .inl ⟨δ, m, rfl, .inl (by simpa using hI)⟩
  | cons d es ih =>
    intro i hi δ m hI
    have hd : l[i]? = some d := by
      have : (l.drop i)[0]? = some d := by rw [hi]; rfl
      simpa using this
    have hi2 : l.drop (i + 1) = es := by
      have : (l.drop i).drop 1 = es := by rw [hi]; rfl
      rw [← this, List.drop_drop]
    have ef : ∀ r, pass g tb (p d) δ m = r → for2 g tb ((d :: es).map p) δ m = (match r with | .next δ m => for2 g tb (es.map p) δ m | .cnt δ m => for2 g tb (es.map p) δ m | .brk δ m => .next δ m | r => r) := by
      intro r hr
      subst hr
      show for2 g tb (p d :: es.map p) δ m = _
      rw [for2]
      unfold pass
      cases hg : g (p d) δ m with
      | ok δ1 m1 => first | rfl | (dsimp only; cases tb δ1 m1 <;> rfl)
      | exc c ns vs m1 => rfl
      | bad => rfl
    rcases h i d δ m hd hI with ⟨δ', m', e, hI'⟩ | ⟨δ', m', e, hS⟩ | ⟨v, m', e, hR⟩
    · have e2 : for2 g tb ((d :: es).map p) δ m = for2 g tb (es.map p) δ' m' := by
        rcases e with e | e <;> exact ef _ e
      rcases ih (i + 1) hi2 δ' m' hI' with ⟨δ2, m2, e3, hI2⟩ | h2
      · refine .inl ⟨δ2, m2, e2.trans e3, ?_⟩
        rw [List.length_cons, Nat.add_comm es.length 1, ← Nat.add_assoc]
        exact hI2
      · obtain ⟨v, m2, e3, r⟩ := h2
        exact .inr ⟨v, m2, e2.trans e3, r⟩
    · exact .inl ⟨δ', m', ef _ e, .inr hS⟩
    · exact .inr ⟨v, m', ef _ e, hR⟩
/-- no return, no break -/
theorem for_on {α : Type} {p : α → D} {g : G2f} {tb : Dl → Mu → Ro} {I : Nat → Dl → Mu → Prop} {l : List α}
    (h : ∀ i a δ m, l[i]? = some a → I i δ m → ∃ δ' m', (pass g tb (p a) δ m = .next δ' m' ∨ pass g tb (p a) δ m = .cnt δ' m') ∧ I (i + 1) δ' m') :
    ∀ δ m, I 0 δ m → ∃ δ' m', for2 g tb (l.map p) δ m = .next δ' m' ∧ I l.length δ' m' := by
  intro δ m hI
  rcases for_ret (R := fun _ _ => False) (S := fun _ _ => False) (fun i a δ m ha hI => .inl (h i a δ m ha hI)) δ m hI with ⟨δ', m', e, h1 | h1⟩ | ⟨_, _, _, h1⟩
  · exact ⟨δ', m', e, h1⟩
  · cases h1
  · cases h1
@[simp] theorem pass_name (tb : Dl → Mu → Ro) (i : Nat) (d : D) (δ : Dl) (m : Mu) : pass (name2 i) tb d δ m = tb (δ.set i (some d)) m := (rfl)
theorem comp_on {α : Type} {p q : α → D} {g : G2f} {te : Dl → Mu → Rs D} {δ : Dl} {I : Mu → Prop} : ∀ (l : List α) {m : Mu}, I m →
    (∀ a ∈ l, ∀ m, I m → ∃ δ' m', g (p a) δ m = .ok δ' m ∧ te δ' m = .ok (q a) m' ∧ I m') → ∃ m', comp2 g yes2 te δ (l.map p) m = .ok (l.map q) m' ∧ I m'
  | [], m, hI, _ => ⟨m, rfl, hI⟩
  | k :: l, m, hI, h => by
    obtain ⟨δ', m1, h1, h2, i1⟩ := h k List.mem_cons_self m hI
    obtain ⟨m2, h3, i2⟩ := comp_on l i1 fun x hx => h x (List.mem_cons_of_mem _ hx)
    exact ⟨m2, by simp only [List.map_cons, comp2, h1, Rs.nx_ok, yes2_ap, if_pos, h2, h3], i2⟩
/-- the same with a test -/
theorem comp_flt {α : Type} {p q : α → D} {b : α → Bool} {g : G2f} {tt : Dl → Mu → Rs Bool} {te : Dl → Mu → Rs D} {δ : Dl} {I : Mu → Prop} : ∀ (l : List α) {m : Mu}, I m →
    (∀ a ∈ l, ∀ m, I m → ∃ δ' m1, g (p a) δ m = .ok δ' m ∧ tt δ' m = .ok (b a) m1 ∧ I m1 ∧ (b a = true → ∃ m2, te δ' m1 = .ok (q a) m2 ∧ I m2)) → ∃ m', comp2 g tt te δ (l.map p) m = .ok ((l.filter b).map q) m' ∧ I m'
  | [], m, hI, _ => ⟨m, rfl, hI⟩
  | k :: l, m, hI, h => by
    obtain ⟨δ', m1, h1, h2, i1, h4⟩ := h k List.mem_cons_self m hI
    cases hb : b k with
    | false =>
      obtain ⟨m2, h3, i2⟩ := comp_flt l i1 fun x hx => h x (List.mem_cons_of_mem _ hx)
      exact ⟨m2, by simp only [List.map_cons, comp2, h1, Rs.nx_ok, h2, hb, Bool.false_eq_true, if_false, h3, List.filter_cons], i2⟩
    | true =>
      obtain ⟨m2, h5, i2⟩ := h4 hb
      obtain ⟨m3, h3, i3⟩ := comp_flt l i2 fun x hx => h x (List.mem_cons_of_mem _ hx)
      exact ⟨m3, by simp only [List.map_cons, comp2, h1, Rs.nx_ok, h2, hb, if_pos, h5, h3, List.filter_cons], i3⟩
/-- each value told by a relation -/
theorem comp_rel {α β : Type} {p : α → D} {q : β → D} {ok : α → β → Prop} {g : G2f} {te : Dl → Mu → Rs D} {δ : Dl} {I : Mu → Prop} : ∀ (l : List α) {m : Mu}, I m →
    (∀ a ∈ l, ∀ m, I m → ∃ δ' m' b, g (p a) δ m = .ok δ' m ∧ te δ' m = .ok (q b) m' ∧ I m' ∧ ok a b) → ∃ (m' : Mu) (bs : List β), comp2 g yes2 te δ (l.map p) m = .ok (bs.map q) m' ∧ I m' ∧ bs.length = l.length ∧ ∀ (i : Nat) (a : α) (b : β), l[i]? = some a → bs[i]? = some b → ok a b
  | [], m, hI, _ => ⟨m, [], rfl, hI, rfl, fun i a b h => by simp at h⟩
  | k :: l, m, hI, h => by
    obtain ⟨δ', m1, b, h1, h2, i1, o1⟩ := h k List.mem_cons_self m hI
    obtain ⟨m2, bs, h3, i2, l2, o2⟩ := comp_rel l i1 fun x hx => h x (List.mem_cons_of_mem _ hx)
    refine ⟨m2, b :: bs, by simp only [List.map_cons, comp2, h1, Rs.nx_ok, yes2_ap, if_pos, h2, h3], i2, by simp [l2], fun i x y hx hy => ?_⟩
    cases i with
    | zero => simp at hx hy; rw [← hx, ← hy]; exact o1
    | succ i => simp at hx hy; exact o2 i x y hx hy
end Dn
set_option Elab.async false
set_option linter.all false
set_option maxRecDepth 100000
/-! Br2: turnings and strikings of words as lists, all that a word can be turned into. -/
namespace Br
open Dn Cox
theorem mOf_wt {n : Nat} {A : List Ang} (G : Good n A) {x y : Nat} (h : x ≠ y) : (mOf (wt A x y) (wt A y x) : Int) = num A x y := by
  have hn := num_in G h
  have q : ∀ k : Int, k = 2 ∨ k = 3 ∨ k = 4 ∨ k = 6 ∨ k = 0 → (mOf (ones k).1 (ones k).2 : Int) = k ∧ (mOf (ones k).2 (ones k).1 : Int) = k := by
    intro k hk
    rcases hk with e | e | e | e | e <;> rw [e] <;> decide
  unfold wt
  rw [num_comm A y x]
  by_cases hl : x < y
  · rw [if_pos hl, if_neg (by omega)]
    exact (q _ hn).1
  · rw [if_neg hl, if_pos (by omega)]
    exact (q _ hn).2
/-- how many letters of two by turns may be turned; 0: none -/
def mm (A : List Ang) (x y : Nat) : Nat := if x = y then 0 else (num A x y).toNat
theorem mm_eq {n : Nat} {A : List Ang} (G : Good n A) {x y : Nat} (h : x ≠ y) : mm A x y = mOf (wt A x y) (wt A y x) := by
  have := mOf_wt G h
  unfold mm
  rw [if_neg h]
  omega
def turnAt (A : List Ang) (w : List Nat) (k : Nat) : Option (List Nat) :=
  if 0 < mm A (w.getD k 0) (w.getD (k + 1) 0) ∧ (w.drop k).take (mm A (w.getD k 0) (w.getD (k + 1) 0)) = (pw [w.getD k 0, w.getD (k + 1) 0] 3).take (mm A (w.getD k 0) (w.getD (k + 1) 0))
  then some (w.take k ++ (pw [w.getD (k + 1) 0, w.getD k 0] 3).take (mm A (w.getD k 0) (w.getD (k + 1) 0)) ++ w.drop (k + mm A (w.getD k 0) (w.getD (k + 1) 0)))
  else none
def turnsL (A : List Ang) (w : List Nat) : List (List Nat) := (List.range (w.length - 1)).filterMap (turnAt A w)
theorem pw_alt (x y m : Nat) (h : m = 2 ∨ m = 3 ∨ m = 4 ∨ m = 6) : ∃ s t, (s = x ∧ t = y ∨ s = y ∧ t = x) ∧ (pw [x, y] 3).take m = wd s t (alt m true) ∧ (pw [y, x] 3).take m = wd s t (alt m false) := by
  rcases h with rfl | rfl | rfl | rfl
  · exact ⟨y, x, .inr ⟨rfl, rfl⟩, rfl, rfl⟩
  · exact ⟨x, y, .inl ⟨rfl, rfl⟩, rfl, rfl⟩
  · exact ⟨y, x, .inr ⟨rfl, rfl⟩, rfl, rfl⟩
  · exact ⟨y, x, .inr ⟨rfl, rfl⟩, rfl, rfl⟩
theorem mm_in {n : Nat} {A : List Ang} (G : Good n A) {x y : Nat} (h : 0 < mm A x y) : x ≠ y ∧ (mm A x y = 2 ∨ mm A x y = 3 ∨ mm A x y = 4 ∨ mm A x y = 6) := by
  unfold mm at h ⊢
  by_cases e : x = y
  · rw [if_pos e] at h; omega
  · rw [if_neg e] at h ⊢
    have := num_in G e
    exact ⟨e, by omega⟩
theorem mm_comm (A : List Ang) (x y : Nat) : mm A x y = mm A y x := by
  unfold mm
  by_cases e : x = y
  · rw [if_pos e, if_pos e.symm]
  · rw [if_neg e, if_neg (Ne.symm e), num_comm]
theorem getD_mem {w : List Nat} {k : Nat} (h : k < w.length) : w.getD k 0 ∈ w := by
  rw [List.getD_eq_getElem?_getD, List.getElem?_eq_getElem h]
  exact List.getElem_mem h
theorem turn_of_at {n : Nat} {A : List Ang} (G : Good n A) {w u : List Nat} (hw : Lt n w) {k : Nat} (hk : k + 1 < w.length) (h : turnAt A w k = some u) : Turn n (wt A) w u := by
  unfold turnAt at h
  generalize hx : w.getD k 0 = x at h
  generalize hy : w.getD (k + 1) 0 = y at h
  split at h
  case isFalse => cases h
  rename_i hc
  obtain ⟨h0, he⟩ := hc
  have lx : x < n := hw x (hx ▸ getD_mem (by omega))
  have ly : y < n := hw y (hy ▸ getD_mem hk)
  obtain ⟨hxy, hm⟩ := mm_in G h0
  have hu := Option.some.inj h
  obtain ⟨s, t, hst, e1, e2⟩ := pw_alt x y (mm A x y) hm
  have hw2 : w = w.take k ++ (w.drop k).take (mm A x y) ++ w.drop (k + mm A x y) := by
    rw [← List.drop_drop, List.append_assoc, List.take_append_drop, List.take_append_drop]
  rw [he, e1] at hw2
  rw [e2] at hu
  rcases hst with ⟨rfl, rfl⟩ | ⟨rfl, rfl⟩
  · have hmo := mm_eq G hxy
    have := Turn.mk (n := n) (c := wt A) (w.take k) (w.drop (k + mm A s t)) lx ly hxy (by omega)
    rw [← hmo, hu] at this
    rw [hw2]
    exact this
  · have hmo := mm_eq G (Ne.symm hxy)
    rw [mm_comm A s t] at hmo
    have := Turn.mk (n := n) (c := wt A) (w.take k) (w.drop (k + mm A t s)) ly lx (Ne.symm hxy) (by omega)
    rw [← hmo, hu] at this
    rw [hw2]
    exact this
theorem turn_iff {n : Nat} {A : List Ang} (G : Good n A) {w u : List Nat} (hw : Lt n w) : u ∈ turnsL A w ↔ Turn n (wt A) w u := by
  unfold turnsL
  rw [List.mem_filterMap]
  constructor
  · rintro ⟨k, hk, h⟩
    have := List.mem_range.mp hk
    exact turn_of_at G hw (by omega) h
  · rintro ⟨p, q, hs, ht, hst, hm⟩
    rename_i s t
    have hmo := mm_eq G hst
    have hin := (mm_in G (show 0 < mm A s t by omega)).2
    rw [← hmo]
    -- the first two letters
    have key : ∃ x y, (x = s ∧ y = t ∨ x = t ∧ y = s) ∧ wd s t (alt (mm A s t) true) = (pw [x, y] 3).take (mm A s t) ∧ wd s t (alt (mm A s t) false) = (pw [y, x] 3).take (mm A s t) ∧ ∃ r, wd s t (alt (mm A s t) true) = x :: y :: r := by
      rcases hin with e | e | e | e <;> rw [e]
      · exact ⟨t, s, .inr ⟨rfl, rfl⟩, rfl, rfl, _, rfl⟩
      · exact ⟨s, t, .inl ⟨rfl, rfl⟩, rfl, rfl, _, rfl⟩
      · exact ⟨t, s, .inr ⟨rfl, rfl⟩, rfl, rfl, _, rfl⟩
      · exact ⟨t, s, .inr ⟨rfl, rfl⟩, rfl, rfl, _, rfl⟩
    obtain ⟨x, y, hxy, e1, e2, r, er⟩ := key
    have hlen : (wd s t (alt (mm A s t) true)).length = mm A s t := by rw [wd_length, alt_length]
    have hmxy : mm A x y = mm A s t := by
      rcases hxy with ⟨rfl, rfl⟩ | ⟨rfl, rfl⟩
      · rfl
      · exact mm_comm A _ _
    refine ⟨p.length, List.mem_range.mpr ?_, ?_⟩
    · simp only [List.length_append, hlen]
      omega
    · have g1 : (p ++ wd s t (alt (mm A s t) true) ++ q).getD p.length 0 = x := by
        rw [er]; simp
      have g2 : (p ++ wd s t (alt (mm A s t) true) ++ q).getD (p.length + 1) 0 = y := by
        rw [er, List.append_assoc, List.getD_eq_getElem?_getD, List.getElem?_append_right (by omega)]
        simp
      unfold turnAt
      rw [g1, g2, hmxy]
      have d1 : ((p ++ wd s t (alt (mm A s t) true) ++ q).drop p.length).take (mm A s t) = wd s t (alt (mm A s t) true) := by
        rw [List.append_assoc, List.drop_left, List.take_append_of_le_length (by omega), List.take_of_length_le (by omega)]
      have d2 : (p ++ wd s t (alt (mm A s t) true) ++ q).take p.length = p := by
        rw [List.append_assoc, List.take_left]
      have d3 : (p ++ wd s t (alt (mm A s t) true) ++ q).drop (p.length + mm A s t) = q := by
        have : p.length + mm A s t = (p ++ wd s t (alt (mm A s t) true)).length := by rw [List.length_append, hlen]
        rw [this, List.drop_left]
      rw [d1, d2, d3, if_pos ⟨by omega, e1⟩, e2]
/-- strikings -/
def strikeB (w : List Nat) (k : Nat) : Bool := w.getD k 0 == w.getD (k + 1) 0
def strikeAt (w : List Nat) (k : Nat) : List Nat := w.take k ++ w.drop (k + 2)
def strikesL (w : List Nat) : List (List Nat) := ((List.range (w.length - 1)).filter (strikeB w)).map (strikeAt w)
theorem strike_of_at {w : List Nat} {k : Nat} (hk : k + 1 < w.length) (h : strikeB w k = true) : Strike w (strikeAt w k) := by
  unfold strikeB at h
  have e : w.getD k 0 = w.getD (k + 1) 0 := by simpa using h
  have g1 : w.getD k 0 = w[k] := by rw [List.getD_eq_getElem?_getD, List.getElem?_eq_getElem (by omega)]; rfl
  have g2 : w.getD (k + 1) 0 = w[k + 1] := by rw [List.getD_eq_getElem?_getD, List.getElem?_eq_getElem hk]; rfl
  have h3 : w[k] = w[k + 1] := by rw [← g1, ← g2, e]
  have hw : w = w.take k ++ w[k] :: w[k] :: w.drop (k + 2) := by
    have h1 : w.drop k = w[k] :: w.drop (k + 1) := List.drop_eq_getElem_cons (by omega)
    have h2 : w.drop (k + 1) = w[k + 1] :: w.drop (k + 2) := List.drop_eq_getElem_cons hk
    have h4 : w = w.take k ++ w.drop k := (List.take_append_drop k w).symm
    rw [h1, h2, ← h3] at h4
    exact h4
  have := Strike.mk (w.take k) (w.drop (k + 2)) w[k]
  rw [← hw] at this
  exact this
theorem strike_iff {w u : List Nat} : u ∈ strikesL w ↔ Strike w u := by
  unfold strikesL
  rw [List.mem_map]
  constructor
  · rintro ⟨k, hk, rfl⟩
    rw [List.mem_filter, List.mem_range] at hk
    exact strike_of_at (by omega) hk.2
  · rintro ⟨p, q, s⟩
    refine ⟨p.length, List.mem_filter.mpr ⟨List.mem_range.mpr (by simp), ?_⟩, ?_⟩
    · unfold strikeB
      simp [List.getD_eq_getElem?_getD]
    · unfold strikeAt
      have : p.length + 2 = (p ++ [s, s]).length := by simp
      rw [List.take_left, this, show p ++ s :: s :: q = (p ++ [s, s]) ++ q by simp, List.drop_left]
/-! how many words there are -/
theorem nodup_le {α : Type} [DecidableEq α] : ∀ {l s : List α}, l.Nodup → (∀ x ∈ l, x ∈ s) → l.length ≤ s.length
  | [], s, _, _ => Nat.zero_le _
  | x :: l, s, h, hs => by
    have hx := hs x List.mem_cons_self
    have h1 := List.nodup_cons.mp h
    have := nodup_le (s := s.erase x) h1.2 fun y hy => (List.mem_erase_of_ne (fun e => h1.1 (by rw [← e]; exact hy))).mpr (hs y (List.mem_cons_of_mem _ hy))
    rw [List.length_erase_of_mem hx] at this
    have hp : 0 < s.length := List.length_pos_of_mem hx
    rw [List.length_cons]
    omega
def allW (n : Nat) : Nat → List (List Nat)
  | 0 => [[]]
  | k + 1 => (List.range n).flatMap fun i => (allW n k).map (i :: ·)
theorem allW_len (n : Nat) : ∀ k, (allW n k).length = n ^ k
  | 0 => rfl
  | k + 1 => by
    unfold allW
    rw [List.length_flatMap]
    simp only [List.length_map, allW_len n k]
    rw [List.map_const', List.sum_replicate_nat, List.length_range, Nat.pow_succ, Nat.mul_comm]
theorem allW_mem {n : Nat} : ∀ {w : List Nat}, Lt n w → w ∈ allW n w.length
  | [], _ => by simp [allW]
  | i :: w, h => by
    show i :: w ∈ allW n (w.length + 1)
    unfold allW
    rw [List.mem_flatMap]
    exact ⟨i, List.mem_range.mpr (h i (by simp)), List.mem_map.mpr ⟨w, allW_mem fun j hj => h j (by simp [hj]), rfl⟩⟩
theorem words_le {n L : Nat} {l : List (List Nat)} (h : l.Nodup) (hl : ∀ w ∈ l, Lt n w ∧ w.length = L) : l.length ≤ n ^ L := by
  rw [← allW_len n L]
  exact nodup_le h fun w hw => by
    have := allW_mem (hl w hw).1
    rwa [(hl w hw).2] at this
/-! the shortest words of an element, in order -/
def leW (a b : List Nat) : Prop := wc a ≤ wc b
theorem wc_inj {a b : List Nat} (h : wc a = wc b) : a = b := by
  unfold wc at h
  exact List.map_inj_right (fun x y e => by omega) |>.mp h
structure Cls (n : Nat) (A : List Ang) (w : List Nat) (S : List (List Nat)) : Prop where
  nd : S.Nodup
  srt : S.Pairwise leW
  mem : ∀ u, u ∈ S ↔ Red n (wt A) u ∧ Eqv n (wt A) w u
theorem Cls.same {n : Nat} {A : List Ang} {w u : List Nat} {S T : List (List Nat)} (h : Cls n A w S) (h' : Cls n A u T) (e : Eqv n (wt A) w u) : S = T := by
  have hp : S.Perm T := (List.perm_ext_iff_of_nodup h.nd h'.nd).mpr fun x => by
    rw [h.mem, h'.mem]
    exact ⟨fun q => ⟨q.1, e.symm.trans q.2⟩, fun q => ⟨q.1, e.trans q.2⟩⟩
  exact List.Perm.eq_of_pairwise (le := leW) (fun a b _ _ h1 h2 => wc_inj (List.le_antisymm h1 h2)) h.srt h'.srt hp
theorem Cls.eqv {n : Nat} {A : List Ang} {w u : List Nat} {S : List (List Nat)} (hw : Lt n w) (h : Cls n A w S) (h' : Cls n A u S) : Eqv n (wt A) w u := by
  obtain ⟨x, rx, ex⟩ := red_exists (c := wt A) hw
  have := (h.mem x).mpr ⟨rx, ex⟩
  exact ex.trans ((h'.mem x).mp this).2.symm
/-- a set of words that turnings lead through, none with a letter to be struck: the shortest ones -/
theorem cls_mem {n : Nat} {A : List Ang} (G : Good n A) {w : List Nat} (hw : Lt n w) {l : List (List Nat)} (h1 : ∀ u, u ∈ l ↔ Turns n (wt A) w u) (h2 : ∀ u ∈ l, strikesL u = []) : ∀ u, u ∈ l ↔ Red n (wt A) u ∧ Eqv n (wt A) w u := by
  have H := okc G
  have hr : ∀ u ∈ l, Red n (wt A) u := by
    intro u hu
    have t := (h1 u).mp hu
    refine ⟨t.lt hw, Classical.byContradiction fun z => ?_⟩
    obtain ⟨x, y, tx, sy⟩ := to_strike H (t.lt hw) z
    have := h2 x ((h1 x).mpr (t.trans tx))
    have := strike_iff.mpr sy
    rw [‹strikesL x = []›] at this
    cases this
  intro u
  constructor
  · intro hu
    exact ⟨hr u hu, ((h1 u).mp hu).eqv H⟩
  · rintro ⟨ru, eu⟩
    have rw_ := hr w ((h1 w).mpr .rfl)
    exact (h1 u).mpr (matsumoto H _ rfl rw_ ru eu)
end Br
set_option Elab.async false
set_option linter.all false
set_option maxRecDepth 100000
/-! Br3: the rows that a word turns, as lists. -/
namespace Br
open Dn Cox
def keyV (n : Nat) (v : Vec) : List Int := (List.range n).map v
theorem keyV_inj {n : Nat} {v u : Vec} (hv : ∀ k, n ≤ k → v k = 0) (hu : ∀ k, n ≤ k → u k = 0) (h : keyV n v = keyV n u) : v = u := by
  funext k
  by_cases hk : k < n
  · exact List.map_inj_left.mp h k (List.mem_range.mpr hk)
  · rw [hv k (by omega), hu k (by omega)]
theorem keyV_len (n : Nat) (v : Vec) : (keyV n v).length = n := by simp [keyV]
def tog : List (List Int × Bool) → List Int → List (List Int × Bool)
  | [], k => [(k, true)]
  | (a, b) :: P, k => if a = k then (a, !b) :: P else (a, b) :: tog P k
def flag : List (List Int × Bool) → List Int → Bool
  | [], _ => false
  | (a, b) :: P, k => if a = k then b else flag P k
theorem tog_keys : ∀ (P : List (List Int × Bool)) (k : List Int), (tog P k).map (·.1) = if k ∈ P.map (·.1) then P.map (·.1) else P.map (·.1) ++ [k]
  | [], k => rfl
  | (a, b) :: P, k => by
    unfold tog
    by_cases h : a = k
    · subst h; simp
    · rw [if_neg h, List.map_cons, tog_keys P k]
      have h2 : k ≠ a := Ne.symm h
      by_cases hk : k ∈ P.map (·.1)
      · have h3 : k ∈ ((a, b) :: P).map (·.1) := List.mem_cons_of_mem _ hk
        rw [if_pos hk, if_pos h3]; rfl
      · have h3 : k ∉ ((a, b) :: P).map (·.1) := by simp only [List.map_cons, List.mem_cons, not_or]; exact ⟨h2, hk⟩
        rw [if_neg hk, if_neg h3]; rfl
theorem tog_nodup {P : List (List Int × Bool)} {k : List Int} (h : (P.map (·.1)).Nodup) : ((tog P k).map (·.1)).Nodup := by
  rw [tog_keys]
  split
  · exact h
  · rename_i hk
    rw [List.nodup_append]
    exact ⟨h, by simp, fun a ha b hb e => by simp at hb; subst hb; exact hk (e ▸ ha)⟩
theorem flag_tog : ∀ (P : List (List Int × Bool)) (k q : List Int), flag (tog P k) q = if k = q then !flag P q else flag P q
  | [], k, q => by unfold tog flag; by_cases h : k = q <;> simp [h, flag]
  | (a, b) :: P, k, q => by
    unfold tog
    by_cases h : a = k
    · subst h
      rw [if_pos rfl]
      unfold flag
      by_cases hq : a = q <;> simp [hq]
    · rw [if_neg h]
      unfold flag
      by_cases hq : a = q
      · subst hq
        rw [if_pos rfl, if_pos rfl, if_neg (Ne.symm h)]
      · rw [if_neg hq, if_neg hq, flag_tog P k q]
def togs (P : List (List Int × Bool)) (l : List (List Int)) : List (List Int × Bool) := l.foldl tog P
def par (q : List Int) : List (List Int) → Bool
  | [] => false
  | a :: l => if a = q then !par q l else par q l
theorem par_cons (q a : List Int) (l : List (List Int)) : par q (a :: l) = if a = q then !par q l else par q l := rfl
theorem flag_togs (q : List Int) : ∀ (l : List (List Int)) (P : List (List Int × Bool)), flag (togs P l) q = (flag P q != par q l)
  | [], P => by simp [togs, par]
  | a :: l, P => by
    show flag (togs (tog P a) l) q = _
    rw [flag_togs q l, flag_tog, par_cons]
    by_cases h : a = q
    · rw [if_pos h, if_pos h]
      cases flag P q <;> cases par q l <;> rfl
    · rw [if_neg h, if_neg h]
theorem togs_nodup : ∀ (l : List (List Int)) {P : List (List Int × Bool)}, (P.map (·.1)).Nodup → ((togs P l).map (·.1)).Nodup
  | [], P, h => h
  | a :: l, P, h => togs_nodup l (tog_nodup h)
def tl (P : List (List Int × Bool)) : List (List Int) := (P.filter (·.2)).map (·.1)
theorem tl_sub (P : List (List Int × Bool)) : (tl P).Sublist (P.map (·.1)) := List.Sublist.map _ List.filter_sublist
theorem mem_tl : ∀ {P : List (List Int × Bool)}, (P.map (·.1)).Nodup → ∀ q, q ∈ tl P ↔ flag P q = true
  | [], _, q => by simp [tl, flag]
  | (a, b) :: P, h, q => by
    have h2 := List.nodup_cons.mp h
    have ih := mem_tl h2.2 q
    have hs : ∀ x, x ∈ tl P → x ∈ P.map (·.1) := fun x hx => (tl_sub P).subset hx
    unfold flag
    have e : tl ((a, b) :: P) = if b = true then a :: tl P else tl P := by
      unfold tl
      rw [List.filter_cons]
      cases b <;> simp
    rw [e]
    by_cases hq : a = q
    · subst hq
      rw [if_pos rfl]
      cases b with
      | true => simp
      | false =>
        simp only [Bool.false_eq_true, if_false, iff_false]
        exact fun z => h2.1 (hs _ z)
    · rw [if_neg hq, ← ih]
      cases b with
      | true => simp [Ne.symm hq]
      | false => simp
def rl (n : Nat) (A : List Ang) (w : List Nat) : List (List Int) := (rts n (wt A) w).map fun v => keyV n (absV v)
def TL (n : Nat) (A : List Ang) (w : List Nat) : List (List Int) := tl (togs [] (rl n A w))
theorem TL_nodup (n : Nat) (A : List Ang) (w : List Nat) : (TL n A w).Nodup := (tl_sub _).nodup (togs_nodup _ (by simp))
theorem absV_supp {n : Nat} {v : Vec} (h : ∀ k, n ≤ k → v k = 0) : ∀ k, n ≤ k → absV v k = 0 := fun k hk => by simp [absV, h k hk]
theorem par_odd {n : Nat} {v : Vec} (hv : ∀ k, n ≤ k → v k = 0) : ∀ {l : List Vec}, (∀ r ∈ l, ∀ k, n ≤ k → r k = 0) → (par (keyV n v) (l.map fun v => keyV n (absV v)) = true ↔ Odd v l)
  | [], _ => by simp [par, Odd]
  | r :: l, h => by
    have ih := par_odd hv (l := l) fun x hx => h x (by simp [hx])
    have hr := absV_supp (h r (by simp))
    simp only [List.map_cons, par, Odd]
    by_cases e : absV r = v
    · rw [if_pos (by rw [e])]
      simp only [e, true_and, ne_eq, not_true_eq_false, false_and, or_false, ← ih]
      cases par (keyV n v) (l.map fun v => keyV n (absV v)) <;> simp
    · rw [if_neg fun z => e (keyV_inj hr hv z)]
      simp only [e, false_and, ne_eq, not_false_eq_true, true_and, false_or, ih]
theorem par_mem {q : List Int} : ∀ {l : List (List Int)}, par q l = true → q ∈ l
  | [], h => by cases h
  | a :: l, h => by
    rw [par_cons] at h
    by_cases e : a = q
    · simp [e]
    · rw [if_neg e] at h
      exact List.mem_cons_of_mem _ (par_mem h)
theorem mem_TL {n : Nat} {A : List Ang} (G : Good n A) {w : List Nat} (hw : Lt n w) (q : List Int) : q ∈ TL n A w ↔ ∃ v, Root n (wt A) v ∧ Hi v ∧ Lo (act n (wt A) w v) ∧ q = keyV n v := by
  have H := okc G
  have hsup : ∀ r ∈ rts n (wt A) w, ∀ k, n ≤ k → r k = 0 := fun r hr k hk => (rts_root hw r hr).supp hk
  have e : q ∈ TL n A w ↔ par q (rl n A w) = true := by
    unfold TL
    rw [mem_tl (togs_nodup _ (by simp)), flag_togs]
    simp [flag]
  rw [e]
  constructor
  · intro h
    obtain ⟨r, hr, rfl⟩ := List.mem_map.mp (par_mem h)
    have rr := (rts_root hw r hr).absV H
    exact ⟨absV r, rr, absV_is_up r, (turned_iff H hw rr (absV_is_up r)).mpr ((par_odd (fun k hk => rr.supp hk) hsup).mp h), rfl⟩
  · rintro ⟨v, rv, hv, lo, rfl⟩
    exact (par_odd (fun k hk => rv.supp hk) hsup).mpr ((turned_iff H hw rv hv).mp lo)
theorem TL_eqv {n : Nat} {A : List Ang} (G : Good n A) {w u : List Nat} (hw : Lt n w) (hu : Lt n u) (e : Eqv n (wt A) w u) : (TL n A w).Perm (TL n A u) :=
  (List.perm_ext_iff_of_nodup (TL_nodup n A w) (TL_nodup n A u)).mpr fun q => by
    rw [mem_TL G hw, mem_TL G hu]
    constructor
    · rintro ⟨v, a, b, c, d⟩
      exact ⟨v, a, b, by rw [← e]; exact c, d⟩
    · rintro ⟨v, a, b, c, d⟩
      exact ⟨v, a, b, by rw [e]; exact c, d⟩
theorem par_nodup {q : List Int} : ∀ {l : List (List Int)}, l.Nodup → (par q l = true ↔ q ∈ l)
  | [], _ => by simp [par]
  | a :: l, h => by
    have h2 := List.nodup_cons.mp h
    have ih := par_nodup (q := q) h2.2
    rw [par_cons]
    by_cases e : a = q
    · subst e
      rw [if_pos rfl]
      have : par a l = false := by
        cases hp : par a l with
        | false => rfl
        | true => exact absurd (ih.mp hp) h2.1
      simp [this]
    · rw [if_neg e, ih]
      simp [Ne.symm e]
/-- as many as the length -/
theorem TL_len {n : Nat} {A : List Ang} (G : Good n A) {w : List Nat} (hw : Lt n w) : (TL n A w).length = len n (wt A) w := by
  have H := okc G
  obtain ⟨u, ru, eu⟩ := red_exists (c := wt A) hw
  rw [(TL_eqv G hw ru.1 eu).length_eq, len_eqv hw ru.1 eu, ru.2]
  have nd : (rl n A u).Nodup := by
    unfold rl
    refine List.Pairwise.map _ (fun a b (hab : Root n (wt A) a ∧ Hi a ∧ Root n (wt A) b ∧ Hi b ∧ a ≠ b) e => ?_) (R := fun a b => Root n (wt A) a ∧ Hi a ∧ Root n (wt A) b ∧ Hi b ∧ a ≠ b) ?_
    · obtain ⟨ra, ha, rb, hb, ne⟩ := hab
      rw [absV_up ha, absV_up hb] at e
      exact ne (keyV_inj (fun k hk => ra.supp hk) (fun k hk => rb.supp hk) e)
    · have h1 := red_rts_nodup H ru
      have h2 := red_rts_up H ru
      have h3 := rts_root (c := wt A) ru.1
      have : ∀ a ∈ rts n (wt A) u, ∀ b ∈ rts n (wt A) u, a ≠ b → (Root n (wt A) a ∧ Hi a ∧ Root n (wt A) b ∧ Hi b ∧ a ≠ b) := fun a ha b hb ne => ⟨h3 a ha, h2 a ha, h3 b hb, h2 b hb, ne⟩
      exact List.Pairwise.imp_of_mem (fun {a b} ha hb ne => this a ha b hb ne) h1
  have hp : (TL n A u).Perm (rl n A u) := (List.perm_ext_iff_of_nodup (TL_nodup n A u) nd).mpr fun q => by
    unfold TL
    rw [mem_tl (togs_nodup _ (by simp)), flag_togs]
    simp only [flag, Bool.false_bne]
    exact par_nodup nd
  rw [hp.length_eq]
  unfold rl
  rw [List.length_map, rts_len]
end Br
set_option Elab.async false
set_option linter.all false
set_option maxRecDepth 100000
/-! Br4: rows of numbers in order. -/
namespace Br
open Dn Cox PySem
abbrev rowT (l : List Int) : D := .tup (l.map D.int)
theorem pys_ints : ∀ l : List Int, D.pys (l.map D.int) = l.map PyData.int
  | [] => rfl
  | a :: l => by rw [List.map_cons, List.map_cons, D.pys, pys_ints l]; rfl
theorem lex_ints : ∀ (a b : List Int), a.length = b.length → PyProof.Rows.lexLt PyProof.Rows.itemOrd (W.keyToksAll (a.map PyData.int)) (W.keyToksAll (b.map PyData.int)) = decide (a < b)
  | [], [], _ => by
    have : ¬ ([] : List Int) < [] := by simp
    rw [decide_eq_false this]
    rfl
  | [], _ :: _, h => by cases h
  | _ :: _, [], h => by cases h
  | x :: a, y :: b, h => by
    have h' : a.length = b.length := by simpa using h
    rw [List.map_cons, List.map_cons, W.dataLt_cons (by rfl), lex_ints a b h', W.dataLt_int]
    have he : (PyData.int x).eqv (PyData.int y) = decide (x = y) := rfl
    rw [he]
    by_cases e : x = y
    · subst e
      simp only [decide_true, if_true]
      congr 1
      simp [List.cons_lt_cons_iff]
    · simp only [e, decide_false, Bool.false_eq_true, if_false]
      congr 1
      simp [List.cons_lt_cons_iff, e]
theorem ltP_rows (a b : List Int) (h : a.length = b.length) : ltP (rowT a) (rowT b) = decide (a < b) := by
  unfold ltP
  show W.dataLt (PyData.tuple (D.pys (a.map D.int))) (PyData.tuple (D.pys (b.map D.int))) = _
  rw [pys_ints, pys_ints, W.dataLt_tuple, lex_ints a b h]
def leR (a b : List Int) : Bool := !decide (b < a)
theorem leR_iff (a b : List Int) : leR a b = true ↔ a ≤ b := by
  unfold leR
  rw [Bool.not_eq_true', decide_eq_false_iff_not]
  exact Iff.rfl
def sortR (R : List (List Int)) : List (List Int) := R.mergeSort leR
theorem leR_trans (a b c : List Int) (h1 : leR a b = true) (h2 : leR b c = true) : leR a c = true := (leR_iff a c).mpr (List.le_trans ((leR_iff a b).mp h1) ((leR_iff b c).mp h2))
theorem leR_total (a b : List Int) : (leR a b || leR b a) = true := by
  rw [Bool.or_eq_true, leR_iff, leR_iff]
  exact List.le_total _ _
theorem sortR_pw (R : List (List Int)) : (sortR R).Pairwise fun a b => leR a b = true := List.pairwise_mergeSort (le := leR) leR_trans leR_total R
theorem sortR_perm (R : List (List Int)) : (sortR R).Perm R := List.mergeSort_perm R leR
theorem sortR_sortR (R : List (List Int)) : sortR (sortR R) = sortR R := List.mergeSort_of_pairwise (sortR_pw R)
theorem sortR_uniq {R S : List (List Int)} (h : R.Perm S) : sortR R = sortR S := by
  refine List.Perm.eq_of_pairwise (le := fun a b => leR a b = true) (fun a b _ _ h1 h2 => List.le_antisymm ((leR_iff a b).mp h1) ((leR_iff b a).mp h2)) (sortR_pw R) (sortR_pw S) ?_
  exact ((sortR_perm R).trans h).trans (sortR_perm S).symm
theorem sortL_rows {R : List (List Int)} {n : Nat} (h : ∀ l ∈ R, l.length = n) : sortL (R.map rowT) = (sortR R).map rowT := by
  unfold sortL sortR
  refine (List.map_mergeSort (f := rowT) fun a ha b hb => ?_).symm
  show leR a b = !ltP (rowT b) (rowT a)
  rw [ltP_rows b a (by rw [h a ha, h b hb])]
  rfl
theorem rows_nm (l : List Int) : Nm 1 (rowT l) := .tup fun d hd => by
  obtain ⟨k, _, rfl⟩ := List.mem_map.mp hd
  exact .int
theorem rowT_inj {a b : List Int} (h : rowT a = rowT b) : a = b := by
  injection h with h
  exact List.map_inj_right (fun x y e => by injection e) |>.mp h
theorem rowD_key (n : Nat) (v : Vec) : (D.tup (rowL n v)) = rowT (keyV n v) := by
  unfold rowL rowT keyV
  rw [List.map_map]
  rfl
theorem alike_rows {R : List (List Int)} {n : Nat} (h : ∀ l ∈ R, l.length = n) : alikeB (R.map rowT) = true := by
  unfold alikeB
  rw [List.all_eq_true]
  intro d hd
  rw [List.all_eq_true]
  intro e he
  obtain ⟨a, ha, rfl⟩ := List.mem_map.mp hd
  obtain ⟨b, hb, rfl⟩ := List.mem_map.mp he
  simp only [Bool.and_true]
  have key : ∀ (a b : List Int), a.length = b.length → W.alikeAll (D.pys (a.map D.int)) (D.pys (b.map D.int)) = true := by
    intro a
    induction a with
    | nil => intro b hb; cases b with
      | nil => rfl
      | cons y b => cases hb
    | cons x a ih =>
      intro b hb
      cases b with
      | nil => cases hb
      | cons y b =>
        have := ih b (by simpa using hb)
        simp only [List.map_cons, D.pys, D.py]
        rw [W.alikeAll]
        simp only [this, Bool.and_true]
        rfl
  exact key a b (by rw [h a ha, h b hb])
end Br
set_option Elab.async false
set_option linter.all false
set_option maxRecDepth 100000
set_option maxHeartbeats 1000000
/-! The first one of the shortest words. -/
namespace Br
open Cox Dn
section
variable {n : Nat} {A : List Ang}
structure Fst (n : Nat) (A : List Ang) (w x : List Nat) : Prop where
  red : Red n (wt A) x
  eqv : Eqv n (wt A) w x
  le : ∀ u, Red n (wt A) u → Eqv n (wt A) w u → leW x u
theorem Fst.uniq {w u x y : List Nat} (h : Fst n A w x) (h' : Fst n A u y) (e : Eqv n (wt A) w u) : x = y :=
  wc_inj (List.le_antisymm (h.le y h'.red (e.trans h'.eqv)) (h'.le x h.red (e.symm.trans h.eqv)))
theorem leW_refl (u : List Nat) : leW u u := List.le_refl _
theorem leW_cons {s : Nat} {x u : List Nat} (h : leW x u) : leW (s :: x) (s :: u) := by
  unfold leW wc at *
  rw [List.map_cons, List.map_cons]
  exact List.cons_le_cons_iff.mpr (.inr ⟨rfl, h⟩)
theorem leW_lt {s t : Nat} {x u : List Nat} (h : s < t) : leW (s :: x) (t :: u) := by
  unfold leW wc
  rw [List.map_cons, List.map_cons]
  exact List.cons_le_cons_iff.mpr (.inl (by omega))
theorem greedy_le (G : Good n A) {q x : List Nat} (h : Greedy n (wt A) q x) : Lt n q → ∀ u, Red n (wt A) u → Eqv n (wt A) (q ++ u) [] → leW x u := by
  induction h with
  | nil h =>
    intro hq u _ _
    exact List.nil_le _
  | @cons q s x hs hl hm g ih =>
    intro hq u ru eu
    have hg := Greedy.spec (okc G) (Greedy.cons hs hl hm g) hq
    have e1 := rev_of eu
    have hlen : u.length = (s :: x).length := by
      rw [← hg.2.2, len_eqv hq ru.1.rev e1, ru.rev.2, List.length_reverse]
    cases u with
    | nil => simp at hlen
    | cons t u' =>
      have ht : t < n := ru.1 t List.mem_cons_self
      have hlo : Lo (act n (wt A) q (alpha t)) := fun k => by
        rw [e1]
        have hr : Red n (wt A) (u'.reverse ++ [t]) := by
          have := ru.rev
          simpa using this
        have := end_neg (okc G) hr k
        simpa using this
      rcases Nat.lt_trichotomy t s with h1 | h1 | h1
      · exact absurd hlo (hm t h1)
      · subst h1
        refine leW_cons (ih (hq.app (.one hs)) u' ?_ (by simpa using eu))
        have : Red n (wt A) ([t] ++ u') := ru
        exact this.right
      · exact leW_lt h1
theorem len_rev {w : List Nat} (hw : Lt n w) : len n (wt A) w.reverse = len n (wt A) w := by
  obtain ⟨u, ru, eu⟩ := red_exists (c := wt A) hw
  rw [len_eqv hw ru.1 eu, ru.2, len_eqv hw.rev ru.1.rev eu.rev, ru.rev.2, List.length_reverse]
theorem greedy_fst (G : Good n A) {w x : List Nat} (hw : Lt n w) (h : Greedy n (wt A) w.reverse x) : Fst n A w x := by
  obtain ⟨h1, h2, h3⟩ := h.spec (okc G) hw.rev
  have e : Eqv n (wt A) w x := by
    have := (rev_of h2).rev
    simpa using this
  refine ⟨⟨h1, ?_⟩, e, fun u ru eu => greedy_le G h hw.rev u ru ?_⟩
  · rw [← h3, ← len_eqv hw h1 e, len_rev hw]
  · exact (Eqv.app .rfl eu.symm).trans (Eqv.revl w)
/-- the head of the shortest words -/
theorem Cls.fst {w : List Nat} {S : List (List Nat)} (hw : Lt n w) (h : Cls n A w S) : ∃ x S', S = x :: S' ∧ Fst n A w x := by
  obtain ⟨u, ru, eu⟩ := red_exists (c := wt A) hw
  have hu := (h.mem u).mpr ⟨ru, eu⟩
  cases S with
  | nil => cases hu
  | cons x S' =>
    obtain ⟨rx, ex⟩ := (h.mem x).mp List.mem_cons_self
    refine ⟨x, S', rfl, rx, ex, fun y ry ey => ?_⟩
    rcases List.mem_cons.mp ((h.mem y).mpr ⟨ry, ey⟩) with rfl | hy
    · exact leW_refl _
    · exact (List.pairwise_cons.mp h.srt).1 y hy
theorem Fst.self {w x : List Nat} (h : Fst n A w x) : Fst n A x x := ⟨h.red, .rfl, fun u ru eu => h.le u ru (h.eqv.trans eu)⟩
theorem Fst.len {w x : List Nat} (hw : Lt n w) (h : Fst n A w x) : x.length = len n (wt A) w := by
  rw [len_eqv hw h.red.1 h.eqv, h.red.2]
theorem Fst.of {w u x : List Nat} (h : Fst n A w x) (e : Eqv n (wt A) u w) : Fst n A u x := ⟨h.red, e.trans h.eqv, fun y ry ey => h.le y ry (e.symm.trans ey)⟩
end
end Br
set_option Elab.async false
set_option linter.all false
set_option maxRecDepth 100000
set_option maxHeartbeats 4000000
namespace K21
open PySem PySem.Spec PyProof.Rows L2 Dn
def top (i : Nat) : Stmt := PySem.Challenge.pw_braidwords_k21_whole_parts_by_lots.main.body.getD i (.Pass ⟨0, 0, 0, 0⟩)
def kk_NUMBERS : List DKey := [.s (ofS "3"), .s (ofS "4"), .s (ofS "6"), .s (ofS "0")]
def kv_NUMBERS : List D := [.int 3, .int 4, .int 6, .int 0]
def kk_ONES : List DKey := [.i 2, .i 3, .i 4, .i 6, .i 0]
def kv_ONES : List D := [.ktp [.int 0, .int 0], .ktp [.int 1, .int 1], .ktp [.int 1, .int 2], .ktp [.int 1, .int 3], .ktp [.int 2, .int 2]]
/-! ### the mirrors -/
def tb_is_angle : Dl → Mu → Ro := (seq2 (if2 (orT (notT (tst2 (on2 (isinstD ["Mirrors"]) (cons2 (var2 0) (cons2 (con2 (.ty "tuple")) nil2))))) (bool2 (op2 neD (on2 lenD (cons2 (var2 0) nil2)) (con2 (.int 3)))))
      (ret2 (con2 (.bl false)))
      nop2)
      (seq2 (asg2 (var2 0) (tupG 3 (gcons2 (name2 3) (gcons2 (name2 4) (gcons2 (name2 5) gnil2)))))
      (seq2 (if2 (orT (notT (tst2 (on2 (isinstD ["Mirrors"]) (cons2 (var2 3) (cons2 (con2 (.ty "str")) nil2))))) (orT (notT (tst2 (on2 (isinstD ["Mirrors"]) (cons2 (var2 4) (cons2 (con2 (.ty "str")) nil2))))) (orT (bool2 (op2 neD (on2 lenD (cons2 (var2 3) nil2)) (con2 (.int 1)))) (bool2 (op2 neD (on2 lenD (cons2 (var2 4) nil2)) (con2 (.int 1)))))))
      (ret2 (con2 (.bl false)))
      nop2)
      (seq2 (if2 (orT (bool2 (op2 notInD (var2 3) (var2 1))) (orT (bool2 (op2 notInD (var2 4) (var2 1))) (orT (notT (bool2 (op2 ltD (var2 2) (op2 addD (var2 3) (var2 4))))) (notT (bool2 (op2 ltD (var2 3) (var2 4)))))))
      (ret2 (con2 (.bl false)))
      nop2)
      (ret2 (andV (on2 (isinstD ["Mirrors"]) (cons2 (var2 5) (cons2 (con2 (.ty "int")) nil2))) (andV (notV (on2 (isinstD ["Mirrors"]) (cons2 (var2 5) (cons2 (con2 (.ty "bool")) nil2)))) (op2 inD (var2 5) (tup2 (cons2 (con2 (.int 3)) (cons2 (con2 (.int 4)) (cons2 (con2 (.int 6)) (cons2 (con2 (.int 0)) nil2)))))))))))))
def F_is_angle : FnD := fnD 6 3 tb_is_angle
theorem F_is_angle_eq (ds : List D) (m : Mu) : F_is_angle ds m = fnD 6 3 tb_is_angle ds m := (rfl)
theorem tb_is_angle_eq (δ : Dl) (m : Mu) : tb_is_angle δ m = (seq2 (if2 (orT (notT (tst2 (on2 (isinstD ["Mirrors"]) (cons2 (var2 0) (cons2 (con2 (.ty "tuple")) nil2))))) (bool2 (op2 neD (on2 lenD (cons2 (var2 0) nil2)) (con2 (.int 3)))))
      (ret2 (con2 (.bl false)))
      nop2)
      (seq2 (asg2 (var2 0) (tupG 3 (gcons2 (name2 3) (gcons2 (name2 4) (gcons2 (name2 5) gnil2)))))
      (seq2 (if2 (orT (notT (tst2 (on2 (isinstD ["Mirrors"]) (cons2 (var2 3) (cons2 (con2 (.ty "str")) nil2))))) (orT (notT (tst2 (on2 (isinstD ["Mirrors"]) (cons2 (var2 4) (cons2 (con2 (.ty "str")) nil2))))) (orT (bool2 (op2 neD (on2 lenD (cons2 (var2 3) nil2)) (con2 (.int 1)))) (bool2 (op2 neD (on2 lenD (cons2 (var2 4) nil2)) (con2 (.int 1)))))))
      (ret2 (con2 (.bl false)))
      nop2)
      (seq2 (if2 (orT (bool2 (op2 notInD (var2 3) (var2 1))) (orT (bool2 (op2 notInD (var2 4) (var2 1))) (orT (notT (bool2 (op2 ltD (var2 2) (op2 addD (var2 3) (var2 4))))) (notT (bool2 (op2 ltD (var2 3) (var2 4)))))))
      (ret2 (con2 (.bl false)))
      nop2)
      (ret2 (andV (on2 (isinstD ["Mirrors"]) (cons2 (var2 5) (cons2 (con2 (.ty "int")) nil2))) (andV (notV (on2 (isinstD ["Mirrors"]) (cons2 (var2 5) (cons2 (con2 (.ty "bool")) nil2)))) (op2 inD (var2 5) (tup2 (cons2 (con2 (.int 3)) (cons2 (con2 (.int 4)) (cons2 (con2 (.int 6)) (cons2 (con2 (.int 0)) nil2))))))))))))) δ m := (rfl)
def tb_angles_fault : Dl → Mu → Ro := (seq2 (if2 (notT (tst2 (on2 (isinstD ["Mirrors"]) (cons2 (var2 1) (cons2 (con2 (.ty "tuple")) nil2)))))
      (ret2 (con2 .non))
      nop2)
      (seq2 (asg2 (con2 (.str (ofS ""))) (name2 2))
      (seq2 (forS (on2 enumD (cons2 (var2 1) nil2)) (tupG 2 (gcons2 (name2 3) (gcons2 (name2 4) gnil2)))
      (seq2 (if2 (notT (tst2 (on2 F_is_angle (cons2 (var2 4) (cons2 (var2 0) (cons2 (var2 2) nil2))))))
      (ret2 (var2 3))
      nop2)
      (asg2 (op2 addD (op2 idxD (var2 4) (con2 (.int 0))) (op2 idxD (var2 4) (con2 (.int 1)))) (name2 2))))
      (ret2 (un2 negD (con2 (.int 1)))))))
def F_angles_fault : FnD := fnD 5 2 tb_angles_fault
theorem F_angles_fault_eq (ds : List D) (m : Mu) : F_angles_fault ds m = fnD 5 2 tb_angles_fault ds m := (rfl)
theorem tb_angles_fault_eq (δ : Dl) (m : Mu) : tb_angles_fault δ m = (seq2 (if2 (notT (tst2 (on2 (isinstD ["Mirrors"]) (cons2 (var2 1) (cons2 (con2 (.ty "tuple")) nil2)))))
      (ret2 (con2 .non))
      nop2)
      (seq2 (asg2 (con2 (.str (ofS ""))) (name2 2))
      (seq2 (forS (on2 enumD (cons2 (var2 1) nil2)) (tupG 2 (gcons2 (name2 3) (gcons2 (name2 4) gnil2)))
      (seq2 (if2 (notT (tst2 (on2 F_is_angle (cons2 (var2 4) (cons2 (var2 0) (cons2 (var2 2) nil2))))))
      (ret2 (var2 3))
      nop2)
      (asg2 (op2 addD (op2 idxD (var2 4) (con2 (.int 0))) (op2 idxD (var2 4) (con2 (.int 1)))) (name2 2))))
      (ret2 (un2 negD (con2 (.int 1))))))) δ m := (rfl)
def tb_parts_in : Dl → Mu → Ro := (seq2 (asg2 (bm2 "str" splitM (var2 0) (cons2 (con2 (.str (ofS " "))) nil2)) (name2 1))
      (seq2 (asg2 (on2 lenD (cons2 (op2 idxD (var2 1) (con2 (.int 0))) nil2)) (name2 2))
      (seq2 (if2 (orT (notT (bool2 (chain2 leD leD (con2 (.int 1)) (var2 2) (con2 (.int 6))))) (bool2 (op2 neD (op2 idxD (var2 1) (con2 (.int 0))) (slc2 (con2 (.str (ofS "abcdefghijklmnopqrstuvwxyz"))) noPart2 (part2 (var2 2))))))
      (ret2 (con2 .non))
      nop2)
      (seq2 (if2 (notT (tst2 (on2 allD (cons2 (lc2 (it2 (slc2 (var2 1) (part2 (con2 (.int 1))) noPart2)) (name2 4) yes2 (andV (op2 eqD (on2 lenD (cons2 (var2 4) nil2)) (con2 (.int 3))) (un2 (kinD kk_NUMBERS kv_NUMBERS) (op2 idxD (var2 4) (con2 (.int 2))))) [4]) nil2))))
      (ret2 (con2 .non))
      nop2)
      (seq2 (asg2 (on2 tupleD (cons2 (lc2 (it2 (slc2 (var2 1) (part2 (con2 (.int 1))) noPart2)) (name2 4) yes2 (tup2 (cons2 (op2 idxD (var2 4) (con2 (.int 0))) (cons2 (op2 idxD (var2 4) (con2 (.int 1))) (cons2 (un2 (kgetD kk_NUMBERS kv_NUMBERS) (op2 idxD (var2 4) (con2 (.int 2)))) nil2)))) [4]) nil2)) (name2 3))
      (ret2 (ifV (bool2 (op2 eqD (on2 F_angles_fault (cons2 (op2 idxD (var2 1) (con2 (.int 0))) (cons2 (var2 3) nil2))) (un2 negD (con2 (.int 1))))) (tup2 (cons2 (var2 2) (cons2 (var2 3) nil2))) (con2 .non))))))))
def F_parts_in : FnD := fnD 5 1 tb_parts_in
theorem F_parts_in_eq (ds : List D) (m : Mu) : F_parts_in ds m = fnD 5 1 tb_parts_in ds m := (rfl)
theorem tb_parts_in_eq (δ : Dl) (m : Mu) : tb_parts_in δ m = (seq2 (asg2 (bm2 "str" splitM (var2 0) (cons2 (con2 (.str (ofS " "))) nil2)) (name2 1))
      (seq2 (asg2 (on2 lenD (cons2 (op2 idxD (var2 1) (con2 (.int 0))) nil2)) (name2 2))
      (seq2 (if2 (orT (notT (bool2 (chain2 leD leD (con2 (.int 1)) (var2 2) (con2 (.int 6))))) (bool2 (op2 neD (op2 idxD (var2 1) (con2 (.int 0))) (slc2 (con2 (.str (ofS "abcdefghijklmnopqrstuvwxyz"))) noPart2 (part2 (var2 2))))))
      (ret2 (con2 .non))
      nop2)
      (seq2 (if2 (notT (tst2 (on2 allD (cons2 (lc2 (it2 (slc2 (var2 1) (part2 (con2 (.int 1))) noPart2)) (name2 4) yes2 (andV (op2 eqD (on2 lenD (cons2 (var2 4) nil2)) (con2 (.int 3))) (un2 (kinD kk_NUMBERS kv_NUMBERS) (op2 idxD (var2 4) (con2 (.int 2))))) [4]) nil2))))
      (ret2 (con2 .non))
      nop2)
      (seq2 (asg2 (on2 tupleD (cons2 (lc2 (it2 (slc2 (var2 1) (part2 (con2 (.int 1))) noPart2)) (name2 4) yes2 (tup2 (cons2 (op2 idxD (var2 4) (con2 (.int 0))) (cons2 (op2 idxD (var2 4) (con2 (.int 1))) (cons2 (un2 (kgetD kk_NUMBERS kv_NUMBERS) (op2 idxD (var2 4) (con2 (.int 2)))) nil2)))) [4]) nil2)) (name2 3))
      (ret2 (ifV (bool2 (op2 eqD (on2 F_angles_fault (cons2 (op2 idxD (var2 1) (con2 (.int 0))) (cons2 (var2 3) nil2))) (un2 negD (con2 (.int 1))))) (tup2 (cons2 (var2 2) (cons2 (var2 3) nil2))) (con2 .non)))))))) δ m := (rfl)
def tb_is_integer : Dl → Mu → Ro := (ret2 (andV (on2 (isinstD ["Mirrors"]) (cons2 (var2 0) (cons2 (con2 (.ty "int")) nil2))) (notV (on2 (isinstD ["Mirrors"]) (cons2 (var2 0) (cons2 (con2 (.ty "bool")) nil2))))))
def F_is_integer : FnD := fnD 1 1 tb_is_integer
theorem F_is_integer_eq (ds : List D) (m : Mu) : F_is_integer ds m = fnD 1 1 tb_is_integer ds m := (rfl)
theorem tb_is_integer_eq (δ : Dl) (m : Mu) : tb_is_integer δ m = (ret2 (andV (on2 (isinstD ["Mirrors"]) (cons2 (var2 0) (cons2 (con2 (.ty "int")) nil2))) (notV (on2 (isinstD ["Mirrors"]) (cons2 (var2 0) (cons2 (con2 (.ty "bool")) nil2)))))) δ m := (rfl)
def tb_is_between : Dl → Mu → Ro := (ret2 (andV (on2 F_is_integer (cons2 (var2 0) nil2)) (chain2 leD leD (var2 1) (var2 0) (var2 2))))
def F_is_between : FnD := fnD 3 3 tb_is_between
theorem F_is_between_eq (ds : List D) (m : Mu) : F_is_between ds m = fnD 3 3 tb_is_between ds m := (rfl)
theorem tb_is_between_eq (δ : Dl) (m : Mu) : tb_is_between δ m = (ret2 (andV (on2 F_is_integer (cons2 (var2 0) nil2)) (chain2 leD leD (var2 1) (var2 0) (var2 2)))) δ m := (rfl)
def tb_check_number : Dl → Mu → Ro := (if2 (notT (tst2 (on2 F_is_between (cons2 (var2 0) (cons2 (var2 1) (cons2 (var2 2) nil2))))))
      never2
      nop2)
def F_check_number : FnD := fnD 3 3 tb_check_number
theorem F_check_number_eq (ds : List D) (m : Mu) : F_check_number ds m = fnD 3 3 tb_check_number ds m := (rfl)
theorem tb_check_number_eq (δ : Dl) (m : Mu) : tb_check_number δ m = (if2 (notT (tst2 (on2 F_is_between (cons2 (var2 0) (cons2 (var2 1) (cons2 (var2 2) nil2))))))
      never2
      nop2) δ m := (rfl)
def tb_Mirrors_init : Dl → Mu → Ro := (seq2 (expr2 (on2 F_check_number (cons2 (var2 1) (cons2 (con2 (.int 1)) (cons2 (con2 (.int 6)) nil2)))))
      (seq2 (asg2 (on2 F_angles_fault (cons2 (slc2 (con2 (.str (ofS "abcdefghijklmnopqrstuvwxyz"))) noPart2 (part2 (var2 1))) (cons2 (var2 2) nil2))) (name2 3))
      (seq2 (if2 (bool2 (op2 neD (var2 3) (un2 negD (con2 (.int 1)))))
      never2
      nop2)
      (seq2 (setF2 ["Mirrors"] "size" (var2 0) (var2 1))
      (setF2 ["Mirrors"] "angles" (var2 0) (var2 2))))))
def F_Mirrors_init : FnD := fnD 4 3 tb_Mirrors_init
theorem F_Mirrors_init_eq (ds : List D) (m : Mu) : F_Mirrors_init ds m = fnD 4 3 tb_Mirrors_init ds m := (rfl)
theorem tb_Mirrors_init_eq (δ : Dl) (m : Mu) : tb_Mirrors_init δ m = (seq2 (expr2 (on2 F_check_number (cons2 (var2 1) (cons2 (con2 (.int 1)) (cons2 (con2 (.int 6)) nil2)))))
      (seq2 (asg2 (on2 F_angles_fault (cons2 (slc2 (con2 (.str (ofS "abcdefghijklmnopqrstuvwxyz"))) noPart2 (part2 (var2 1))) (cons2 (var2 2) nil2))) (name2 3))
      (seq2 (if2 (bool2 (op2 neD (var2 3) (un2 negD (con2 (.int 1)))))
      never2
      nop2)
      (seq2 (setF2 ["Mirrors"] "size" (var2 0) (var2 1))
      (setF2 ["Mirrors"] "angles" (var2 0) (var2 2)))))) δ m := (rfl)
def tb_Mirrors_read : Dl → Mu → Ro := (seq2 (asg2 (ifV (tst2 (on2 (isinstD ["Mirrors"]) (cons2 (var2 1) (cons2 (con2 (.ty "str")) nil2)))) (on2 F_parts_in (cons2 (var2 1) nil2)) (con2 .non)) (name2 2))
      (seq2 (if2 (bool2 (op2 isD (var2 2) (con2 .non)))
      never2
      nop2)
      (ret2 (make2 "Mirrors" F_Mirrors_init true 2 0 [0, 1, 2] (var2 0) (cons2 (op2 idxD (var2 2) (con2 (.int 0))) (cons2 (op2 idxD (var2 2) (con2 (.int 1))) nil2)) nil2))))
def F_Mirrors_read : FnD := fnD 3 2 tb_Mirrors_read
theorem F_Mirrors_read_eq (ds : List D) (m : Mu) : F_Mirrors_read ds m = fnD 3 2 tb_Mirrors_read ds m := (rfl)
theorem tb_Mirrors_read_eq (δ : Dl) (m : Mu) : tb_Mirrors_read δ m = (seq2 (asg2 (ifV (tst2 (on2 (isinstD ["Mirrors"]) (cons2 (var2 1) (cons2 (con2 (.ty "str")) nil2)))) (on2 F_parts_in (cons2 (var2 1) nil2)) (con2 .non)) (name2 2))
      (seq2 (if2 (bool2 (op2 isD (var2 2) (con2 .non)))
      never2
      nop2)
      (ret2 (make2 "Mirrors" F_Mirrors_init true 2 0 [0, 1, 2] (var2 0) (cons2 (op2 idxD (var2 2) (con2 (.int 0))) (cons2 (op2 idxD (var2 2) (con2 (.int 1))) nil2)) nil2)))) δ m := (rfl)
def tb_check_mirrors : Dl → Mu → Ro := (if2 (notT (tst2 (on2 (isinstD ["Mirrors"]) (cons2 (var2 0) (cons2 (con2 (.glo "Mirrors")) nil2)))))
      never2
      nop2)
def F_check_mirrors : FnD := fnD 1 1 tb_check_mirrors
theorem F_check_mirrors_eq (ds : List D) (m : Mu) : F_check_mirrors ds m = fnD 1 1 tb_check_mirrors ds m := (rfl)
theorem tb_check_mirrors_eq (δ : Dl) (m : Mu) : tb_check_mirrors δ m = (if2 (notT (tst2 (on2 (isinstD ["Mirrors"]) (cons2 (var2 0) (cons2 (con2 (.glo "Mirrors")) nil2)))))
      never2
      nop2) δ m := (rfl)
def tb_Mirrors_letters : Dl → Mu → Ro := (ret2 (slc2 (con2 (.str (ofS "abcdefghijklmnopqrstuvwxyz"))) noPart2 (part2 (fld2 ["Mirrors"] "size" (var2 0)))))
def F_Mirrors_letters : FnD := fnD 1 1 tb_Mirrors_letters
theorem F_Mirrors_letters_eq (ds : List D) (m : Mu) : F_Mirrors_letters ds m = fnD 1 1 tb_Mirrors_letters ds m := (rfl)
theorem tb_Mirrors_letters_eq (δ : Dl) (m : Mu) : tb_Mirrors_letters δ m = (ret2 (slc2 (con2 (.str (ofS "abcdefghijklmnopqrstuvwxyz"))) noPart2 (part2 (fld2 ["Mirrors"] "size" (var2 0))))) δ m := (rfl)
def tb_check_lot : Dl → Mu → Ro := (seq2 (if2 (orT (notT (tst2 (on2 (isinstD ["Mirrors"]) (cons2 (var2 1) (cons2 (con2 (.ty "str")) nil2))))) (notT (tst2 (on2 allD (cons2 (lc2 (it2 (var2 1)) (name2 2) yes2 (op2 inD (var2 2) (un2 (propD [("Mirrors", F_Mirrors_letters)]) (var2 0))) [2]) nil2)))))
      never2
      nop2)
      (if2 (notT (tst2 (on2 allD (cons2 (lc2 (on2 zipD (cons2 (var2 1) (cons2 (slc2 (var2 1) (part2 (con2 (.int 1))) noPart2) nil2))) (tupG 2 (gcons2 (name2 3) (gcons2 (name2 4) gnil2))) yes2 (op2 ltD (var2 3) (var2 4)) [3, 4]) nil2))))
      never2
      nop2))
def F_check_lot : FnD := fnD 5 2 tb_check_lot
theorem F_check_lot_eq (ds : List D) (m : Mu) : F_check_lot ds m = fnD 5 2 tb_check_lot ds m := (rfl)
theorem tb_check_lot_eq (δ : Dl) (m : Mu) : tb_check_lot δ m = (seq2 (if2 (orT (notT (tst2 (on2 (isinstD ["Mirrors"]) (cons2 (var2 1) (cons2 (con2 (.ty "str")) nil2))))) (notT (tst2 (on2 allD (cons2 (lc2 (it2 (var2 1)) (name2 2) yes2 (op2 inD (var2 2) (un2 (propD [("Mirrors", F_Mirrors_letters)]) (var2 0))) [2]) nil2)))))
      never2
      nop2)
      (if2 (notT (tst2 (on2 allD (cons2 (lc2 (on2 zipD (cons2 (var2 1) (cons2 (slc2 (var2 1) (part2 (con2 (.int 1))) noPart2) nil2))) (tupG 2 (gcons2 (name2 3) (gcons2 (name2 4) gnil2))) yes2 (op2 ltD (var2 3) (var2 4)) [3, 4]) nil2))))
      never2
      nop2)) δ m := (rfl)
def tb_is_word : Dl → Mu → Ro := (seq2 (if2 (orT (notT (tst2 (on2 (isinstD ["Mirrors"]) (cons2 (var2 1) (cons2 (con2 (.ty "str")) nil2))))) (bool2 (op2 gtD (on2 lenD (cons2 (var2 1) nil2)) (con2 (.int 60)))))
      (ret2 (con2 (.bl false)))
      nop2)
      (ret2 (on2 allD (cons2 (lc2 (it2 (var2 1)) (name2 2) yes2 (op2 inD (var2 2) (un2 (propD [("Mirrors", F_Mirrors_letters)]) (var2 0))) [2]) nil2))))
def F_is_word : FnD := fnD 3 2 tb_is_word
theorem F_is_word_eq (ds : List D) (m : Mu) : F_is_word ds m = fnD 3 2 tb_is_word ds m := (rfl)
theorem tb_is_word_eq (δ : Dl) (m : Mu) : tb_is_word δ m = (seq2 (if2 (orT (notT (tst2 (on2 (isinstD ["Mirrors"]) (cons2 (var2 1) (cons2 (con2 (.ty "str")) nil2))))) (bool2 (op2 gtD (on2 lenD (cons2 (var2 1) nil2)) (con2 (.int 60)))))
      (ret2 (con2 (.bl false)))
      nop2)
      (ret2 (on2 allD (cons2 (lc2 (it2 (var2 1)) (name2 2) yes2 (op2 inD (var2 2) (un2 (propD [("Mirrors", F_Mirrors_letters)]) (var2 0))) [2]) nil2)))) δ m := (rfl)
def tb_check_word : Dl → Mu → Ro := (if2 (notT (tst2 (on2 F_is_word (cons2 (var2 0) (cons2 (var2 1) nil2)))))
      never2
      nop2)
def F_check_word : FnD := fnD 2 2 tb_check_word
theorem F_check_word_eq (ds : List D) (m : Mu) : F_check_word ds m = fnD 2 2 tb_check_word ds m := (rfl)
theorem tb_check_word_eq (δ : Dl) (m : Mu) : tb_check_word δ m = (if2 (notT (tst2 (on2 F_is_word (cons2 (var2 0) (cons2 (var2 1) nil2)))))
      never2
      nop2) δ m := (rfl)
def tb_check_asked : Dl → Mu → Ro := (seq2 (expr2 (on2 F_check_mirrors (cons2 (var2 0) nil2)))
      (expr2 (on2 F_check_word (cons2 (var2 0) (cons2 (var2 1) nil2)))))
def F_check_asked : FnD := fnD 2 2 tb_check_asked
theorem F_check_asked_eq (ds : List D) (m : Mu) : F_check_asked ds m = fnD 2 2 tb_check_asked ds m := (rfl)
theorem tb_check_asked_eq (δ : Dl) (m : Mu) : tb_check_asked δ m = (seq2 (expr2 (on2 F_check_mirrors (cons2 (var2 0) nil2)))
      (expr2 (on2 F_check_word (cons2 (var2 0) (cons2 (var2 1) nil2))))) δ m := (rfl)
def tb_number_of : Dl → Mu → Ro := (seq2 (if2 (bool2 (op2 eqD (var2 1) (var2 2)))
      (ret2 (con2 (.int 1)))
      nop2)
      (seq2 (forS (it2 (fld2 ["Mirrors"] "angles" (var2 0))) (tupG 3 (gcons2 (name2 3) (gcons2 (name2 4) (gcons2 (name2 5) gnil2))))
      (if2 (bool2 (op2 eqD (on2 sorted2 (cons2 (lst2 (cons2 (var2 1) (cons2 (var2 2) nil2))) nil2)) (lst2 (cons2 (var2 3) (cons2 (var2 4) nil2)))))
      (ret2 (var2 5))
      nop2))
      (ret2 (con2 (.int 2)))))
def F_number_of : FnD := fnD 6 3 tb_number_of
theorem F_number_of_eq (ds : List D) (m : Mu) : F_number_of ds m = fnD 6 3 tb_number_of ds m := (rfl)
theorem tb_number_of_eq (δ : Dl) (m : Mu) : tb_number_of δ m = (seq2 (if2 (bool2 (op2 eqD (var2 1) (var2 2)))
      (ret2 (con2 (.int 1)))
      nop2)
      (seq2 (forS (it2 (fld2 ["Mirrors"] "angles" (var2 0))) (tupG 3 (gcons2 (name2 3) (gcons2 (name2 4) (gcons2 (name2 5) gnil2))))
      (if2 (bool2 (op2 eqD (on2 sorted2 (cons2 (lst2 (cons2 (var2 1) (cons2 (var2 2) nil2))) nil2)) (lst2 (cons2 (var2 3) (cons2 (var2 4) nil2)))))
      (ret2 (var2 5))
      nop2))
      (ret2 (con2 (.int 2))))) δ m := (rfl)
def tb_weight : Dl → Mu → Ro := (ret2 (op2 idxD (un2 (kgetD kk_ONES kv_ONES) (on2 F_number_of (cons2 (var2 0) (cons2 (var2 1) (cons2 (var2 2) nil2))))) (ifV (bool2 (op2 ltD (var2 1) (var2 2))) (con2 (.int 0)) (con2 (.int 1)))))
def F_weight : FnD := fnD 3 3 tb_weight
theorem F_weight_eq (ds : List D) (m : Mu) : F_weight ds m = fnD 3 3 tb_weight ds m := (rfl)
theorem tb_weight_eq (δ : Dl) (m : Mu) : tb_weight δ m = (ret2 (op2 idxD (un2 (kgetD kk_ONES kv_ONES) (on2 F_number_of (cons2 (var2 0) (cons2 (var2 1) (cons2 (var2 2) nil2))))) (ifV (bool2 (op2 ltD (var2 1) (var2 2))) (con2 (.int 0)) (con2 (.int 1))))) δ m := (rfl)
def tb_weights_of : Dl → Mu → Ro := (seq2 (par2 1 2 (cons2 (un2 (propD [("Mirrors", F_Mirrors_letters)]) (var2 0)) (cons2 (lstM nil2) nil2)))
      (seq2 (forS (it2 (var2 1)) (name2 3)
      (expr2 (bm2 "list" appendM (var2 2) (cons2 (lc2 (it2 (var2 1)) (name2 4) yes2 (ifV (bool2 (op2 eqD (var2 3) (var2 4))) (con2 (.int 0)) (on2 F_weight (cons2 (var2 0) (cons2 (var2 3) (cons2 (var2 4) nil2))))) [4]) nil2))))
      (ret2 (un2 frz2D (var2 2)))))
def F_weights_of : FnD := fnD 5 1 tb_weights_of
theorem F_weights_of_eq (ds : List D) (m : Mu) : F_weights_of ds m = fnD 5 1 tb_weights_of ds m := (rfl)
theorem tb_weights_of_eq (δ : Dl) (m : Mu) : tb_weights_of δ m = (seq2 (par2 1 2 (cons2 (un2 (propD [("Mirrors", F_Mirrors_letters)]) (var2 0)) (cons2 (lstM nil2) nil2)))
      (seq2 (forS (it2 (var2 1)) (name2 3)
      (expr2 (bm2 "list" appendM (var2 2) (cons2 (lc2 (it2 (var2 1)) (name2 4) yes2 (ifV (bool2 (op2 eqD (var2 3) (var2 4))) (con2 (.int 0)) (on2 F_weight (cons2 (var2 0) (cons2 (var2 3) (cons2 (var2 4) nil2))))) [4]) nil2))))
      (ret2 (un2 frz2D (var2 2))))) δ m := (rfl)
def tb_sent_by : Dl → Mu → Ro := (seq2 (asg2 (on2 sumD (cons2 (lc2 (on2 zipD (cons2 (op2 idxD (var2 0) (var2 1)) (cons2 (var2 2) nil2))) (tupG 2 (gcons2 (name2 4) (gcons2 (name2 5) gnil2))) yes2 (op2 mulD (var2 4) (var2 5)) [4, 5]) nil2)) (name2 3))
      (ret2 (tup2 (star2 (slc2 (var2 2) noPart2 (part2 (var2 1))) (cons2 (op2 subD (var2 3) (op2 idxD (var2 2) (var2 1))) (star2 (slc2 (var2 2) (part2 (op2 addD (var2 1) (con2 (.int 1)))) noPart2) nil2))))))
def F_sent_by : FnD := fnD 6 3 tb_sent_by
theorem F_sent_by_eq (ds : List D) (m : Mu) : F_sent_by ds m = fnD 6 3 tb_sent_by ds m := (rfl)
theorem tb_sent_by_eq (δ : Dl) (m : Mu) : tb_sent_by δ m = (seq2 (asg2 (on2 sumD (cons2 (lc2 (on2 zipD (cons2 (op2 idxD (var2 0) (var2 1)) (cons2 (var2 2) nil2))) (tupG 2 (gcons2 (name2 4) (gcons2 (name2 5) gnil2))) yes2 (op2 mulD (var2 4) (var2 5)) [4, 5]) nil2)) (name2 3))
      (ret2 (tup2 (star2 (slc2 (var2 2) noPart2 (part2 (var2 1))) (cons2 (op2 subD (var2 3) (op2 idxD (var2 2) (var2 1))) (star2 (slc2 (var2 2) (part2 (op2 addD (var2 1) (con2 (.int 1)))) noPart2) nil2)))))) δ m := (rfl)
def tb_sent : Dl → Mu → Ro := (seq2 (asg2 (on2 F_weights_of (cons2 (var2 0) nil2)) (name2 3))
      (seq2 (forS (it2 (un2 revD (var2 1))) (name2 4)
      (asg2 (on2 F_sent_by (cons2 (var2 3) (cons2 (bm2 "str" sindexM (un2 (propD [("Mirrors", F_Mirrors_letters)]) (var2 0)) (cons2 (var2 4) nil2)) (cons2 (var2 2) nil2)))) (name2 2)))
      (ret2 (var2 2))))
def F_sent : FnD := fnD 5 3 tb_sent
theorem F_sent_eq (ds : List D) (m : Mu) : F_sent ds m = fnD 5 3 tb_sent ds m := (rfl)
theorem tb_sent_eq (δ : Dl) (m : Mu) : tb_sent δ m = (seq2 (asg2 (on2 F_weights_of (cons2 (var2 0) nil2)) (name2 3))
      (seq2 (forS (it2 (un2 revD (var2 1))) (name2 4)
      (asg2 (on2 F_sent_by (cons2 (var2 3) (cons2 (bm2 "str" sindexM (un2 (propD [("Mirrors", F_Mirrors_letters)]) (var2 0)) (cons2 (var2 4) nil2)) (cons2 (var2 2) nil2)))) (name2 2)))
      (ret2 (var2 2)))) δ m := (rfl)
def tb_single : Dl → Mu → Ro := (ret2 (on2 tupleD (cons2 (lc2 (on2 rg1D (cons2 (fld2 ["Mirrors"] "size" (var2 0)) nil2)) (name2 2) yes2 (ifV (bool2 (op2 eqD (var2 2) (var2 1))) (con2 (.int 1)) (con2 (.int 0))) [2]) nil2)))
def F_single : FnD := fnD 3 2 tb_single
theorem F_single_eq (ds : List D) (m : Mu) : F_single ds m = fnD 3 2 tb_single ds m := (rfl)
theorem tb_single_eq (δ : Dl) (m : Mu) : tb_single δ m = (ret2 (on2 tupleD (cons2 (lc2 (on2 rg1D (cons2 (fld2 ["Mirrors"] "size" (var2 0)) nil2)) (name2 2) yes2 (ifV (bool2 (op2 eqD (var2 2) (var2 1))) (con2 (.int 1)) (con2 (.int 0))) [2]) nil2))) δ m := (rfl)
def tb_all_sent : Dl → Mu → Ro := (ret2 (on2 tupleD (cons2 (lc2 (on2 rg1D (cons2 (fld2 ["Mirrors"] "size" (var2 0)) nil2)) (name2 2) yes2 (on2 F_sent (cons2 (var2 0) (cons2 (var2 1) (cons2 (on2 F_single (cons2 (var2 0) (cons2 (var2 2) nil2))) nil2)))) [2]) nil2)))
def F_all_sent : FnD := fnD 3 2 tb_all_sent
theorem F_all_sent_eq (ds : List D) (m : Mu) : F_all_sent ds m = fnD 3 2 tb_all_sent ds m := (rfl)
theorem tb_all_sent_eq (δ : Dl) (m : Mu) : tb_all_sent δ m = (ret2 (on2 tupleD (cons2 (lc2 (on2 rg1D (cons2 (fld2 ["Mirrors"] "size" (var2 0)) nil2)) (name2 2) yes2 (on2 F_sent (cons2 (var2 0) (cons2 (var2 1) (cons2 (on2 F_single (cons2 (var2 0) (cons2 (var2 2) nil2))) nil2)))) [2]) nil2))) δ m := (rfl)
def tb_is_below : Dl → Mu → Ro := (ret2 (op2 ltD (on2 minF (cons2 (var2 0) nil2)) (con2 (.int 0))))
def F_is_below : FnD := fnD 1 1 tb_is_below
theorem F_is_below_eq (ds : List D) (m : Mu) : F_is_below ds m = fnD 1 1 tb_is_below ds m := (rfl)
theorem tb_is_below_eq (δ : Dl) (m : Mu) : tb_is_below δ m = (ret2 (op2 ltD (on2 minF (cons2 (var2 0) nil2)) (con2 (.int 0)))) δ m := (rfl)
def tb_falls : Dl → Mu → Ro := (ret2 (lc2 (on2 enumD (cons2 (var2 0) nil2)) (tupG 2 (gcons2 (name2 1) (gcons2 (name2 2) gnil2))) (tst2 (on2 F_is_below (cons2 (var2 2) nil2))) (var2 1) [1, 2]))
def F_falls : FnD := fnD 3 1 tb_falls
theorem F_falls_eq (ds : List D) (m : Mu) : F_falls ds m = fnD 3 1 tb_falls ds m := (rfl)
theorem tb_falls_eq (δ : Dl) (m : Mu) : tb_falls δ m = (ret2 (lc2 (on2 enumD (cons2 (var2 0) nil2)) (tupG 2 (gcons2 (name2 1) (gcons2 (name2 2) gnil2))) (tst2 (on2 F_is_below (cons2 (var2 2) nil2))) (var2 1) [1, 2])) δ m := (rfl)
def tb_first_fall : Dl → Mu → Ro := (seq2 (asg2 (lc2 (it2 (on2 F_falls (cons2 (var2 1) nil2))) (name2 4) (bool2 (op2 inD (op2 idxD (un2 (propD [("Mirrors", F_Mirrors_letters)]) (var2 0)) (var2 4)) (var2 2))) (var2 4) [4]) (name2 3))
      (ret2 (ifV (bool2 (op2 neD (var2 3) (lst2 nil2))) (op2 idxD (var2 3) (con2 (.int 0))) (con2 .non))))
def F_first_fall : FnD := fnD 5 3 tb_first_fall
theorem F_first_fall_eq (ds : List D) (m : Mu) : F_first_fall ds m = fnD 5 3 tb_first_fall ds m := (rfl)
theorem tb_first_fall_eq (δ : Dl) (m : Mu) : tb_first_fall δ m = (seq2 (asg2 (lc2 (it2 (on2 F_falls (cons2 (var2 1) nil2))) (name2 4) (bool2 (op2 inD (op2 idxD (un2 (propD [("Mirrors", F_Mirrors_letters)]) (var2 0)) (var2 4)) (var2 2))) (var2 4) [4]) (name2 3))
      (ret2 (ifV (bool2 (op2 neD (var2 3) (lst2 nil2))) (op2 idxD (var2 3) (con2 (.int 0))) (con2 .non)))) δ m := (rfl)
def tb_times_letter : Dl → Mu → Ro := (seq2 (asg2 (op2 idxD (var2 1) (var2 2)) (name2 3))
      (seq2 (asg2 (lstM nil2) (name2 4))
      (seq2 (forS (on2 enumD (cons2 (var2 1) nil2)) (tupG 2 (gcons2 (name2 5) (gcons2 (name2 6) gnil2)))
      (seq2 (asg2 (ifV (bool2 (op2 eqD (var2 5) (var2 2))) (un2 negD (con2 (.int 2))) (op2 idxD (op2 idxD (var2 0) (var2 2)) (var2 5))) (name2 7))
      (expr2 (bm2 "list" appendM (var2 4) (cons2 (on2 tupleD (cons2 (lc2 (on2 zipD (cons2 (var2 6) (cons2 (var2 3) nil2))) (tupG 2 (gcons2 (name2 8) (gcons2 (name2 9) gnil2))) yes2 (op2 addD (var2 8) (op2 mulD (var2 7) (var2 9))) [8, 9]) nil2)) nil2)))))
      (ret2 (on2 tupleD (cons2 (var2 4) nil2))))))
def F_times_letter : FnD := fnD 10 3 tb_times_letter
theorem F_times_letter_eq (ds : List D) (m : Mu) : F_times_letter ds m = fnD 10 3 tb_times_letter ds m := (rfl)
theorem tb_times_letter_eq (δ : Dl) (m : Mu) : tb_times_letter δ m = (seq2 (asg2 (op2 idxD (var2 1) (var2 2)) (name2 3))
      (seq2 (asg2 (lstM nil2) (name2 4))
      (seq2 (forS (on2 enumD (cons2 (var2 1) nil2)) (tupG 2 (gcons2 (name2 5) (gcons2 (name2 6) gnil2)))
      (seq2 (asg2 (ifV (bool2 (op2 eqD (var2 5) (var2 2))) (un2 negD (con2 (.int 2))) (op2 idxD (op2 idxD (var2 0) (var2 2)) (var2 5))) (name2 7))
      (expr2 (bm2 "list" appendM (var2 4) (cons2 (on2 tupleD (cons2 (lc2 (on2 zipD (cons2 (var2 6) (cons2 (var2 3) nil2))) (tupG 2 (gcons2 (name2 8) (gcons2 (name2 9) gnil2))) yes2 (op2 addD (var2 8) (op2 mulD (var2 7) (var2 9))) [8, 9]) nil2)) nil2)))))
      (ret2 (on2 tupleD (cons2 (var2 4) nil2)))))) δ m := (rfl)
def fuel_words_from : Nat := 1000000
def tb_words_from : Dl → Mu → Ro := (seq2 (par2 2 3 (cons2 (on2 F_weights_of (cons2 (var2 0) nil2)) (cons2 (con2 (.str (ofS ""))) nil2)))
      (seq2 (asg2 (on2 F_falls (cons2 (var2 1) nil2)) (name2 4))
      (seq2 (while2 (bool2 (op2 neD (var2 4) (lst2 nil2)))
      (seq2 (asg2 (op2 addD (var2 3) (op2 idxD (un2 (propD [("Mirrors", F_Mirrors_letters)]) (var2 0)) (op2 idxD (var2 4) (con2 (.int 0))))) (name2 3))
      (seq2 (asg2 (on2 F_times_letter (cons2 (var2 2) (cons2 (var2 1) (cons2 (op2 idxD (var2 4) (con2 (.int 0))) nil2)))) (name2 1))
      (asg2 (on2 F_falls (cons2 (var2 1) nil2)) (name2 4)))) fuel_words_from)
      (ret2 (var2 3)))))
def F_words_from : FnD := fnD 5 2 tb_words_from
theorem F_words_from_eq (ds : List D) (m : Mu) : F_words_from ds m = fnD 5 2 tb_words_from ds m := (rfl)
theorem tb_words_from_eq (δ : Dl) (m : Mu) : tb_words_from δ m = (seq2 (par2 2 3 (cons2 (on2 F_weights_of (cons2 (var2 0) nil2)) (cons2 (con2 (.str (ofS ""))) nil2)))
      (seq2 (asg2 (on2 F_falls (cons2 (var2 1) nil2)) (name2 4))
      (seq2 (while2 (bool2 (op2 neD (var2 4) (lst2 nil2)))
      (seq2 (asg2 (op2 addD (var2 3) (op2 idxD (un2 (propD [("Mirrors", F_Mirrors_letters)]) (var2 0)) (op2 idxD (var2 4) (con2 (.int 0))))) (name2 3))
      (seq2 (asg2 (on2 F_times_letter (cons2 (var2 2) (cons2 (var2 1) (cons2 (op2 idxD (var2 4) (con2 (.int 0))) nil2)))) (name2 1))
      (asg2 (on2 F_falls (cons2 (var2 1) nil2)) (name2 4)))) fuel_words_from)
      (ret2 (var2 3))))) δ m := (rfl)
def tb_first_of : Dl → Mu → Ro := (ret2 (on2 F_words_from (cons2 (var2 0) (cons2 (on2 F_all_sent (cons2 (var2 0) (cons2 (un2 revD (var2 1)) nil2))) nil2))))
def F_first_of : FnD := fnD 2 2 tb_first_of
theorem F_first_of_eq (ds : List D) (m : Mu) : F_first_of ds m = fnD 2 2 tb_first_of ds m := (rfl)
theorem tb_first_of_eq (δ : Dl) (m : Mu) : tb_first_of δ m = (ret2 (on2 F_words_from (cons2 (var2 0) (cons2 (on2 F_all_sent (cons2 (var2 0) (cons2 (un2 revD (var2 1)) nil2))) nil2)))) δ m := (rfl)
def fuel_cut_off : Nat := 1000000
def tb_cut_off : Dl → Mu → Ro := (seq2 (par3 3 4 5 (cons2 (on2 F_weights_of (cons2 (var2 0) nil2)) (cons2 (on2 F_all_sent (cons2 (var2 0) (cons2 (var2 1) nil2))) (cons2 (con2 (.str (ofS ""))) nil2))))
      (seq2 (asg2 (on2 F_first_fall (cons2 (var2 0) (cons2 (var2 4) (cons2 (var2 2) nil2)))) (name2 6))
      (seq2 (while2 (bool2 (op2 isntD (var2 6) (con2 .non)))
      (seq2 (asg2 (op2 addD (op2 idxD (un2 (propD [("Mirrors", F_Mirrors_letters)]) (var2 0)) (var2 6)) (var2 5)) (name2 5))
      (seq2 (asg2 (on2 F_times_letter (cons2 (var2 3) (cons2 (var2 4) (cons2 (var2 6) nil2)))) (name2 4))
      (asg2 (on2 F_first_fall (cons2 (var2 0) (cons2 (var2 4) (cons2 (var2 2) nil2)))) (name2 6)))) fuel_cut_off)
      (ret2 (tup2 (cons2 (var2 5) (cons2 (on2 F_first_of (cons2 (var2 0) (cons2 (op2 addD (var2 1) (un2 revD (var2 5))) nil2))) nil2)))))))
def F_cut_off : FnD := fnD 7 3 tb_cut_off
theorem F_cut_off_eq (ds : List D) (m : Mu) : F_cut_off ds m = fnD 7 3 tb_cut_off ds m := (rfl)
theorem tb_cut_off_eq (δ : Dl) (m : Mu) : tb_cut_off δ m = (seq2 (par3 3 4 5 (cons2 (on2 F_weights_of (cons2 (var2 0) nil2)) (cons2 (on2 F_all_sent (cons2 (var2 0) (cons2 (var2 1) nil2))) (cons2 (con2 (.str (ofS ""))) nil2))))
      (seq2 (asg2 (on2 F_first_fall (cons2 (var2 0) (cons2 (var2 4) (cons2 (var2 2) nil2)))) (name2 6))
      (seq2 (while2 (bool2 (op2 isntD (var2 6) (con2 .non)))
      (seq2 (asg2 (op2 addD (op2 idxD (un2 (propD [("Mirrors", F_Mirrors_letters)]) (var2 0)) (var2 6)) (var2 5)) (name2 5))
      (seq2 (asg2 (on2 F_times_letter (cons2 (var2 3) (cons2 (var2 4) (cons2 (var2 6) nil2)))) (name2 4))
      (asg2 (on2 F_first_fall (cons2 (var2 0) (cons2 (var2 4) (cons2 (var2 2) nil2)))) (name2 6)))) fuel_cut_off)
      (ret2 (tup2 (cons2 (var2 5) (cons2 (on2 F_first_of (cons2 (var2 0) (cons2 (op2 addD (var2 1) (un2 revD (var2 5))) nil2))) nil2))))))) δ m := (rfl)
def fuel_both_cut : Nat := 1000000
def tb_both_cut : Dl → Mu → Ro := (seq2 (asg2 (con2 .non) (name2 4))
      (seq2 (while2 (bool2 (op2 neD (var2 4) (var2 2)))
      (seq2 (asg2 (var2 2) (name2 4))
      (seq2 (asg2 (un2 revD (op2 idxD (on2 F_cut_off (cons2 (var2 0) (cons2 (un2 revD (var2 2)) (cons2 (var2 1) nil2)))) (con2 (.int 1)))) (name2 2))
      (asg2 (op2 idxD (on2 F_cut_off (cons2 (var2 0) (cons2 (var2 2) (cons2 (var2 3) nil2)))) (con2 (.int 1))) (name2 2)))) fuel_both_cut)
      (ret2 (on2 F_first_of (cons2 (var2 0) (cons2 (var2 2) nil2))))))
def F_both_cut : FnD := fnD 5 4 tb_both_cut
theorem F_both_cut_eq (ds : List D) (m : Mu) : F_both_cut ds m = fnD 5 4 tb_both_cut ds m := (rfl)
theorem tb_both_cut_eq (δ : Dl) (m : Mu) : tb_both_cut δ m = (seq2 (asg2 (con2 .non) (name2 4))
      (seq2 (while2 (bool2 (op2 neD (var2 4) (var2 2)))
      (seq2 (asg2 (var2 2) (name2 4))
      (seq2 (asg2 (un2 revD (op2 idxD (on2 F_cut_off (cons2 (var2 0) (cons2 (un2 revD (var2 2)) (cons2 (var2 1) nil2)))) (con2 (.int 1)))) (name2 2))
      (asg2 (op2 idxD (on2 F_cut_off (cons2 (var2 0) (cons2 (var2 2) (cons2 (var2 3) nil2)))) (con2 (.int 1))) (name2 2)))) fuel_both_cut)
      (ret2 (on2 F_first_of (cons2 (var2 0) (cons2 (var2 2) nil2)))))) δ m := (rfl)
def tb_inner : Dl → Mu → Ro := (seq2 (expr2 (on2 F_check_mirrors (cons2 (var2 0) nil2)))
      (seq2 (expr2 (on2 F_check_lot (cons2 (var2 0) (cons2 (var2 1) nil2))))
      (seq2 (expr2 (on2 F_check_asked (cons2 (var2 0) (cons2 (var2 2) nil2))))
      (seq2 (expr2 (on2 F_check_lot (cons2 (var2 0) (cons2 (var2 3) nil2))))
      (ret2 (on2 F_both_cut (cons2 (var2 0) (cons2 (var2 1) (cons2 (var2 2) (cons2 (var2 3) nil2))))))))))
def F_inner : FnD := fnD 4 4 tb_inner
theorem F_inner_eq (ds : List D) (m : Mu) : F_inner ds m = fnD 4 4 tb_inner ds m := (rfl)
theorem tb_inner_eq (δ : Dl) (m : Mu) : tb_inner δ m = (seq2 (expr2 (on2 F_check_mirrors (cons2 (var2 0) nil2)))
      (seq2 (expr2 (on2 F_check_lot (cons2 (var2 0) (cons2 (var2 1) nil2))))
      (seq2 (expr2 (on2 F_check_asked (cons2 (var2 0) (cons2 (var2 2) nil2))))
      (seq2 (expr2 (on2 F_check_lot (cons2 (var2 0) (cons2 (var2 3) nil2))))
      (ret2 (on2 F_both_cut (cons2 (var2 0) (cons2 (var2 1) (cons2 (var2 2) (cons2 (var2 3) nil2)))))))))) δ m := (rfl)
def tb_parted : Dl → Mu → Ro := (seq2 (expr2 (on2 F_check_asked (cons2 (var2 0) (cons2 (var2 1) nil2))))
      (seq2 (expr2 (on2 F_check_lot (cons2 (var2 0) (cons2 (var2 2) nil2))))
      (seq2 (asg2 (on2 F_cut_off (cons2 (var2 0) (cons2 (var2 1) (cons2 (var2 2) nil2)))) (tupG 2 (gcons2 (name2 3) (gcons2 (name2 4) gnil2))))
      (ret2 (tup2 (cons2 (var2 4) (cons2 (on2 F_first_of (cons2 (var2 0) (cons2 (var2 3) nil2))) nil2)))))))
def F_parted : FnD := fnD 5 3 tb_parted
theorem F_parted_eq (ds : List D) (m : Mu) : F_parted ds m = fnD 5 3 tb_parted ds m := (rfl)
theorem tb_parted_eq (δ : Dl) (m : Mu) : tb_parted δ m = (seq2 (expr2 (on2 F_check_asked (cons2 (var2 0) (cons2 (var2 1) nil2))))
      (seq2 (expr2 (on2 F_check_lot (cons2 (var2 0) (cons2 (var2 2) nil2))))
      (seq2 (asg2 (on2 F_cut_off (cons2 (var2 0) (cons2 (var2 1) (cons2 (var2 2) nil2)))) (tupG 2 (gcons2 (name2 3) (gcons2 (name2 4) gnil2))))
      (ret2 (tup2 (cons2 (var2 4) (cons2 (on2 F_first_of (cons2 (var2 0) (cons2 (var2 3) nil2))) nil2))))))) δ m := (rfl)
def tb_support_of : Dl → Mu → Ro := (seq2 (asg2 (on2 F_first_of (cons2 (var2 0) (cons2 (var2 1) nil2))) (name2 2))
      (ret2 (bm2 "str" joinM (con2 (.str (ofS ""))) (cons2 (lc2 (it2 (un2 (propD [("Mirrors", F_Mirrors_letters)]) (var2 0))) (name2 3) (bool2 (op2 inD (var2 3) (var2 2))) (var2 3) [3]) nil2))))
def F_support_of : FnD := fnD 4 2 tb_support_of
theorem F_support_of_eq (ds : List D) (m : Mu) : F_support_of ds m = fnD 4 2 tb_support_of ds m := (rfl)
theorem tb_support_of_eq (δ : Dl) (m : Mu) : tb_support_of δ m = (seq2 (asg2 (on2 F_first_of (cons2 (var2 0) (cons2 (var2 1) nil2))) (name2 2))
      (ret2 (bm2 "str" joinM (con2 (.str (ofS ""))) (cons2 (lc2 (it2 (un2 (propD [("Mirrors", F_Mirrors_letters)]) (var2 0))) (name2 3) (bool2 (op2 inD (var2 3) (var2 2))) (var2 3) [3]) nil2)))) δ m := (rfl)
def tb_support : Dl → Mu → Ro := (seq2 (expr2 (on2 F_check_asked (cons2 (var2 0) (cons2 (var2 1) nil2))))
      (ret2 (on2 F_support_of (cons2 (var2 0) (cons2 (var2 1) nil2)))))
def F_support : FnD := fnD 2 2 tb_support
theorem F_support_eq (ds : List D) (m : Mu) : F_support ds m = fnD 2 2 tb_support ds m := (rfl)
theorem tb_support_eq (δ : Dl) (m : Mu) : tb_support δ m = (seq2 (expr2 (on2 F_check_asked (cons2 (var2 0) (cons2 (var2 1) nil2))))
      (ret2 (on2 F_support_of (cons2 (var2 0) (cons2 (var2 1) nil2))))) δ m := (rfl)
def tb_is_part : Dl → Mu → Ro := (seq2 (expr2 (on2 F_check_asked (cons2 (var2 0) (cons2 (var2 1) nil2))))
      (seq2 (expr2 (on2 F_check_lot (cons2 (var2 0) (cons2 (var2 2) nil2))))
      (ret2 (on2 allD (cons2 (lc2 (it2 (on2 F_support_of (cons2 (var2 0) (cons2 (var2 1) nil2)))) (name2 3) yes2 (op2 inD (var2 3) (var2 2)) [3]) nil2)))))
def F_is_part : FnD := fnD 4 3 tb_is_part
theorem F_is_part_eq (ds : List D) (m : Mu) : F_is_part ds m = fnD 4 3 tb_is_part ds m := (rfl)
theorem tb_is_part_eq (δ : Dl) (m : Mu) : tb_is_part δ m = (seq2 (expr2 (on2 F_check_asked (cons2 (var2 0) (cons2 (var2 1) nil2))))
      (seq2 (expr2 (on2 F_check_lot (cons2 (var2 0) (cons2 (var2 2) nil2))))
      (ret2 (on2 allD (cons2 (lc2 (it2 (on2 F_support_of (cons2 (var2 0) (cons2 (var2 1) nil2)))) (name2 3) yes2 (op2 inD (var2 3) (var2 2)) [3]) nil2))))) δ m := (rfl)
def tb_law_sip : Dl → Mu → Ro := (seq2 (asg2 (op2 addD (op2 idxD (var2 0) (con2 (.int 2))) (con2 (.int 1))) (subG (var2 0) (con2 (.int 2))))
      (seq2 (if2 (bool2 (op2 gtD (op2 idxD (var2 0) (con2 (.int 0))) (con2 (.int 0))))
      (seq2 (asg2 (op2 modD (on2 intD (cons2 (op2 idxD (var2 0) (con2 (.int 0))) nil2)) (var2 1)) (name2 2))
      (seq2 (asg2 (op2 fdivD (on2 intD (cons2 (op2 idxD (var2 0) (con2 (.int 0))) nil2)) (var2 1)) (subG (var2 0) (con2 (.int 0))))
      (ret2 (var2 2))))
      nop2)
      (seq2 (asg2 (op2 modD (on2 intD (cons2 (op2 addD (op2 addD (op2 mulD (op2 idxD (var2 0) (con2 (.int 1))) (con2 (.int 39373))) (op2 mulD (con2 (.int 1777)) (op2 idxD (var2 0) (con2 (.int 2))))) (con2 (.int 47))) nil2)) (con2 (.int 2147483563))) (subG (var2 0) (con2 (.int 1))))
      (ret2 (op2 modD (on2 intD (cons2 (op2 fdivD (op2 idxD (var2 0) (con2 (.int 1))) (con2 (.int 64))) nil2)) (var2 1))))))
def F_law_sip : FnD := fnD 3 2 tb_law_sip
theorem F_law_sip_eq (ds : List D) (m : Mu) : F_law_sip ds m = fnD 3 2 tb_law_sip ds m := (rfl)
theorem tb_law_sip_eq (δ : Dl) (m : Mu) : tb_law_sip δ m = (seq2 (asg2 (op2 addD (op2 idxD (var2 0) (con2 (.int 2))) (con2 (.int 1))) (subG (var2 0) (con2 (.int 2))))
      (seq2 (if2 (bool2 (op2 gtD (op2 idxD (var2 0) (con2 (.int 0))) (con2 (.int 0))))
      (seq2 (asg2 (op2 modD (on2 intD (cons2 (op2 idxD (var2 0) (con2 (.int 0))) nil2)) (var2 1)) (name2 2))
      (seq2 (asg2 (op2 fdivD (on2 intD (cons2 (op2 idxD (var2 0) (con2 (.int 0))) nil2)) (var2 1)) (subG (var2 0) (con2 (.int 0))))
      (ret2 (var2 2))))
      nop2)
      (seq2 (asg2 (op2 modD (on2 intD (cons2 (op2 addD (op2 addD (op2 mulD (op2 idxD (var2 0) (con2 (.int 1))) (con2 (.int 39373))) (op2 mulD (con2 (.int 1777)) (op2 idxD (var2 0) (con2 (.int 2))))) (con2 (.int 47))) nil2)) (con2 (.int 2147483563))) (subG (var2 0) (con2 (.int 1))))
      (ret2 (op2 modD (on2 intD (cons2 (op2 fdivD (op2 idxD (var2 0) (con2 (.int 1))) (con2 (.int 64))) nil2)) (var2 1)))))) δ m := (rfl)
def tb_law_pick : Dl → Mu → Ro := (ret2 (op2 idxD (var2 1) (on2 F_law_sip (cons2 (var2 0) (cons2 (on2 lenD (cons2 (var2 1) nil2)) nil2)))))
def F_law_pick : FnD := fnD 2 2 tb_law_pick
theorem F_law_pick_eq (ds : List D) (m : Mu) : F_law_pick ds m = fnD 2 2 tb_law_pick ds m := (rfl)
theorem tb_law_pick_eq (δ : Dl) (m : Mu) : tb_law_pick δ m = (ret2 (op2 idxD (var2 1) (on2 F_law_sip (cons2 (var2 0) (cons2 (on2 lenD (cons2 (var2 1) nil2)) nil2))))) δ m := (rfl)
def tb_law_plan : Dl → Mu → Ro := (seq2 (par2 2 3 (cons2 (op2 addD (con2 (.int 1)) (on2 F_law_sip (cons2 (var2 0) (cons2 (var2 1) nil2)))) (cons2 newDict nil2)))
      (seq2 (forS (on2 rg1D (cons2 (var2 2) nil2)) (name2 4)
      (forS (on2 rg2D (cons2 (op2 addD (var2 4) (con2 (.int 1))) (cons2 (var2 2) nil2))) (name2 5)
      (seq2 (asg2 (on2 F_law_pick (cons2 (var2 0) (cons2 (lst2 (cons2 (con2 (.int 2)) (cons2 (con2 (.int 2)) (cons2 (con2 (.int 3)) (cons2 (con2 (.int 3)) (cons2 (con2 (.int 3)) (cons2 (con2 (.int 4)) (cons2 (con2 (.int 6)) (cons2 (con2 (.int 0)) nil2))))))))) nil2))) (name2 6))
      (if2 (bool2 (op2 neD (var2 6) (con2 (.int 2))))
      (asg2 (var2 6) (subG (var2 3) (op2 addD (op2 idxD (con2 (.str (ofS "abcdef"))) (var2 4)) (op2 idxD (con2 (.str (ofS "abcdef"))) (var2 5)))))
      nop2))))
      (ret2 (lst2 (cons2 (var2 2) (cons2 (un2 frz2D (var2 3)) nil2))))))
def F_law_plan : FnD := fnD 7 2 tb_law_plan
theorem F_law_plan_eq (ds : List D) (m : Mu) : F_law_plan ds m = fnD 7 2 tb_law_plan ds m := (rfl)
theorem tb_law_plan_eq (δ : Dl) (m : Mu) : tb_law_plan δ m = (seq2 (par2 2 3 (cons2 (op2 addD (con2 (.int 1)) (on2 F_law_sip (cons2 (var2 0) (cons2 (var2 1) nil2)))) (cons2 newDict nil2)))
      (seq2 (forS (on2 rg1D (cons2 (var2 2) nil2)) (name2 4)
      (forS (on2 rg2D (cons2 (op2 addD (var2 4) (con2 (.int 1))) (cons2 (var2 2) nil2))) (name2 5)
      (seq2 (asg2 (on2 F_law_pick (cons2 (var2 0) (cons2 (lst2 (cons2 (con2 (.int 2)) (cons2 (con2 (.int 2)) (cons2 (con2 (.int 3)) (cons2 (con2 (.int 3)) (cons2 (con2 (.int 3)) (cons2 (con2 (.int 4)) (cons2 (con2 (.int 6)) (cons2 (con2 (.int 0)) nil2))))))))) nil2))) (name2 6))
      (if2 (bool2 (op2 neD (var2 6) (con2 (.int 2))))
      (asg2 (var2 6) (subG (var2 3) (op2 addD (op2 idxD (con2 (.str (ofS "abcdef"))) (var2 4)) (op2 idxD (con2 (.str (ofS "abcdef"))) (var2 5)))))
      nop2))))
      (ret2 (lst2 (cons2 (var2 2) (cons2 (un2 frz2D (var2 3)) nil2)))))) δ m := (rfl)
def tb_law_angles : Dl → Mu → Ro := (ret2 (on2 tupleD (cons2 (lc2 (it2 (on2 sorted2 (cons2 (op2 idxD (var2 0) (con2 (.int 1))) nil2))) (name2 1) yes2 (tup2 (cons2 (op2 idxD (var2 1) (con2 (.int 0))) (cons2 (op2 idxD (var2 1) (con2 (.int 1))) (cons2 (op2 idxD (op2 idxD (var2 0) (con2 (.int 1))) (var2 1)) nil2)))) [1]) nil2)))
def F_law_angles : FnD := fnD 2 1 tb_law_angles
theorem F_law_angles_eq (ds : List D) (m : Mu) : F_law_angles ds m = fnD 2 1 tb_law_angles ds m := (rfl)
theorem tb_law_angles_eq (δ : Dl) (m : Mu) : tb_law_angles δ m = (ret2 (on2 tupleD (cons2 (lc2 (it2 (on2 sorted2 (cons2 (op2 idxD (var2 0) (con2 (.int 1))) nil2))) (name2 1) yes2 (tup2 (cons2 (op2 idxD (var2 1) (con2 (.int 0))) (cons2 (op2 idxD (var2 1) (con2 (.int 1))) (cons2 (op2 idxD (op2 idxD (var2 0) (con2 (.int 1))) (var2 1)) nil2)))) [1]) nil2))) δ m := (rfl)
def tb_law_made : Dl → Mu → Ro := (ret2 (make2 "Mirrors" F_Mirrors_init true 2 0 [0, 1, 2] (con2 (.glo "Mirrors")) (cons2 (op2 idxD (var2 0) (con2 (.int 0))) (cons2 (on2 F_law_angles (cons2 (var2 0) nil2)) nil2)) nil2))
def F_law_made : FnD := fnD 1 1 tb_law_made
theorem F_law_made_eq (ds : List D) (m : Mu) : F_law_made ds m = fnD 1 1 tb_law_made ds m := (rfl)
theorem tb_law_made_eq (δ : Dl) (m : Mu) : tb_law_made δ m = (ret2 (make2 "Mirrors" F_Mirrors_init true 2 0 [0, 1, 2] (con2 (.glo "Mirrors")) (cons2 (op2 idxD (var2 0) (con2 (.int 0))) (cons2 (on2 F_law_angles (cons2 (var2 0) nil2)) nil2)) nil2)) δ m := (rfl)
def tb_law_word : Dl → Mu → Ro := (ret2 (bm2 "str" joinM (con2 (.str (ofS ""))) (cons2 (lc2 (on2 rg1D (cons2 (on2 F_law_sip (cons2 (var2 0) (cons2 (op2 addD (var2 2) (con2 (.int 1))) nil2))) nil2)) (name2 3) yes2 (op2 idxD (con2 (.str (ofS "abcdef"))) (on2 F_law_sip (cons2 (var2 0) (cons2 (op2 idxD (var2 1) (con2 (.int 0))) nil2)))) [3]) nil2)))
def F_law_word : FnD := fnD 4 3 tb_law_word
theorem F_law_word_eq (ds : List D) (m : Mu) : F_law_word ds m = fnD 4 3 tb_law_word ds m := (rfl)
theorem tb_law_word_eq (δ : Dl) (m : Mu) : tb_law_word δ m = (ret2 (bm2 "str" joinM (con2 (.str (ofS ""))) (cons2 (lc2 (on2 rg1D (cons2 (on2 F_law_sip (cons2 (var2 0) (cons2 (op2 addD (var2 2) (con2 (.int 1))) nil2))) nil2)) (name2 3) yes2 (op2 idxD (con2 (.str (ofS "abcdef"))) (on2 F_law_sip (cons2 (var2 0) (cons2 (op2 idxD (var2 1) (con2 (.int 0))) nil2)))) [3]) nil2))) δ m := (rfl)
def tb_law_lot : Dl → Mu → Ro := (ret2 (bm2 "str" joinM (con2 (.str (ofS ""))) (cons2 (lc2 (it2 (slc2 (con2 (.str (ofS "abcdef"))) noPart2 (part2 (op2 idxD (var2 1) (con2 (.int 0)))))) (name2 2) (bool2 (op2 eqD (on2 F_law_sip (cons2 (var2 0) (cons2 (con2 (.int 2)) nil2))) (con2 (.int 0)))) (var2 2) [2]) nil2)))
def F_law_lot : FnD := fnD 3 2 tb_law_lot
theorem F_law_lot_eq (ds : List D) (m : Mu) : F_law_lot ds m = fnD 3 2 tb_law_lot ds m := (rfl)
theorem tb_law_lot_eq (δ : Dl) (m : Mu) : tb_law_lot δ m = (ret2 (bm2 "str" joinM (con2 (.str (ofS ""))) (cons2 (lc2 (it2 (slc2 (con2 (.str (ofS "abcdef"))) noPart2 (part2 (op2 idxD (var2 1) (con2 (.int 0)))))) (name2 2) (bool2 (op2 eqD (on2 F_law_sip (cons2 (var2 0) (cons2 (con2 (.int 2)) nil2))) (con2 (.int 0)))) (var2 2) [2]) nil2))) δ m := (rfl)
def tb_law_m : Dl → Mu → Ro := (ret2 (get2 (op2 idxD (var2 0) (con2 (.int 1))) (op2 addD (on2 minF (cons2 (var2 1) (cons2 (var2 2) nil2))) (on2 maxF (cons2 (var2 1) (cons2 (var2 2) nil2)))) (con2 (.int 2))))
def F_law_m : FnD := fnD 3 3 tb_law_m
theorem F_law_m_eq (ds : List D) (m : Mu) : F_law_m ds m = fnD 3 3 tb_law_m ds m := (rfl)
theorem tb_law_m_eq (δ : Dl) (m : Mu) : tb_law_m δ m = (ret2 (get2 (op2 idxD (var2 0) (con2 (.int 1))) (op2 addD (on2 minF (cons2 (var2 1) (cons2 (var2 2) nil2))) (on2 maxF (cons2 (var2 1) (cons2 (var2 2) nil2)))) (con2 (.int 2)))) δ m := (rfl)
def tb_law_turns : Dl → Mu → Ro := (seq2 (asg2 (lstM nil2) (name2 2))
      (seq2 (forS (on2 rg1D (cons2 (op2 subD (on2 lenD (cons2 (var2 1) nil2)) (con2 (.int 1))) nil2)) (name2 3)
      (seq2 (par2 4 5 (cons2 (op2 idxD (var2 1) (var2 3)) (cons2 (op2 idxD (var2 1) (op2 addD (var2 3) (con2 (.int 1)))) nil2)))
      (seq2 (asg2 (ifV (bool2 (op2 neD (var2 4) (var2 5))) (on2 F_law_m (cons2 (var2 0) (cons2 (var2 4) (cons2 (var2 5) nil2)))) (con2 (.int 0))) (name2 6))
      (if2 (andT (bool2 (op2 gtD (var2 6) (con2 (.int 0)))) (bool2 (op2 eqD (slc2 (var2 1) (part2 (var2 3)) (part2 (op2 addD (var2 3) (var2 6)))) (slc2 (op2 mulD (op2 addD (var2 4) (var2 5)) (con2 (.int 3))) noPart2 (part2 (var2 6))))))
      (expr2 (bm2 "list" appendM (var2 2) (cons2 (op2 addD (op2 addD (slc2 (var2 1) noPart2 (part2 (var2 3))) (slc2 (op2 mulD (op2 addD (var2 5) (var2 4)) (con2 (.int 3))) noPart2 (part2 (var2 6)))) (slc2 (var2 1) (part2 (op2 addD (var2 3) (var2 6))) noPart2)) nil2)))
      nop2))))
      (ret2 (un2 frz2D (var2 2)))))
def F_law_turns : FnD := fnD 7 2 tb_law_turns
theorem F_law_turns_eq (ds : List D) (m : Mu) : F_law_turns ds m = fnD 7 2 tb_law_turns ds m := (rfl)
theorem tb_law_turns_eq (δ : Dl) (m : Mu) : tb_law_turns δ m = (seq2 (asg2 (lstM nil2) (name2 2))
      (seq2 (forS (on2 rg1D (cons2 (op2 subD (on2 lenD (cons2 (var2 1) nil2)) (con2 (.int 1))) nil2)) (name2 3)
      (seq2 (par2 4 5 (cons2 (op2 idxD (var2 1) (var2 3)) (cons2 (op2 idxD (var2 1) (op2 addD (var2 3) (con2 (.int 1)))) nil2)))
      (seq2 (asg2 (ifV (bool2 (op2 neD (var2 4) (var2 5))) (on2 F_law_m (cons2 (var2 0) (cons2 (var2 4) (cons2 (var2 5) nil2)))) (con2 (.int 0))) (name2 6))
      (if2 (andT (bool2 (op2 gtD (var2 6) (con2 (.int 0)))) (bool2 (op2 eqD (slc2 (var2 1) (part2 (var2 3)) (part2 (op2 addD (var2 3) (var2 6)))) (slc2 (op2 mulD (op2 addD (var2 4) (var2 5)) (con2 (.int 3))) noPart2 (part2 (var2 6))))))
      (expr2 (bm2 "list" appendM (var2 2) (cons2 (op2 addD (op2 addD (slc2 (var2 1) noPart2 (part2 (var2 3))) (slc2 (op2 mulD (op2 addD (var2 5) (var2 4)) (con2 (.int 3))) noPart2 (part2 (var2 6)))) (slc2 (var2 1) (part2 (op2 addD (var2 3) (var2 6))) noPart2)) nil2)))
      nop2))))
      (ret2 (un2 frz2D (var2 2))))) δ m := (rfl)
def tb_law_turned_all : Dl → Mu → Ro := (seq2 (par2 2 3 (cons2 (lstM (cons2 (var2 1) nil2)) (cons2 (con2 (.int 0)) nil2)))
      (seq2 (asg2 (dict1 (var2 1) (con2 (.bl true))) (name2 4))
      (seq2 (forS (on2 rg1D (cons2 (op2 powD (con2 (.int 10)) (con2 (.int 6))) nil2)) (name2 5)
      (seq2 (if2 (bool2 (op2 eqD (var2 3) (on2 lenD (cons2 (var2 2) nil2))))
      (ret2 (un2 frz2D (var2 2)))
      nop2)
      (seq2 (forS (it2 (on2 F_law_turns (cons2 (var2 0) (cons2 (op2 idxD (var2 2) (var2 3)) nil2)))) (name2 6)
      (if2 (bool2 (op2 notInD (var2 6) (var2 4)))
      (seq2 (asg2 (con2 (.bl true)) (subG (var2 4) (var2 6)))
      (expr2 (bm2 "list" appendM (var2 2) (cons2 (var2 6) nil2))))
      nop2))
      (asg2 (op2 addD (var2 3) (con2 (.int 1))) (name2 3)))))
      (ret2 (un2 frz2D (var2 2))))))
def F_law_turned_all : FnD := fnD 7 2 tb_law_turned_all
theorem F_law_turned_all_eq (ds : List D) (m : Mu) : F_law_turned_all ds m = fnD 7 2 tb_law_turned_all ds m := (rfl)
theorem tb_law_turned_all_eq (δ : Dl) (m : Mu) : tb_law_turned_all δ m = (seq2 (par2 2 3 (cons2 (lstM (cons2 (var2 1) nil2)) (cons2 (con2 (.int 0)) nil2)))
      (seq2 (asg2 (dict1 (var2 1) (con2 (.bl true))) (name2 4))
      (seq2 (forS (on2 rg1D (cons2 (op2 powD (con2 (.int 10)) (con2 (.int 6))) nil2)) (name2 5)
      (seq2 (if2 (bool2 (op2 eqD (var2 3) (on2 lenD (cons2 (var2 2) nil2))))
      (ret2 (un2 frz2D (var2 2)))
      nop2)
      (seq2 (forS (it2 (on2 F_law_turns (cons2 (var2 0) (cons2 (op2 idxD (var2 2) (var2 3)) nil2)))) (name2 6)
      (if2 (bool2 (op2 notInD (var2 6) (var2 4)))
      (seq2 (asg2 (con2 (.bl true)) (subG (var2 4) (var2 6)))
      (expr2 (bm2 "list" appendM (var2 2) (cons2 (var2 6) nil2))))
      nop2))
      (asg2 (op2 addD (var2 3) (con2 (.int 1))) (name2 3)))))
      (ret2 (un2 frz2D (var2 2)))))) δ m := (rfl)
def tb_law_strikes : Dl → Mu → Ro := (ret2 (lc2 (on2 rg1D (cons2 (op2 subD (on2 lenD (cons2 (var2 0) nil2)) (con2 (.int 1))) nil2)) (name2 1) (bool2 (op2 eqD (op2 idxD (var2 0) (var2 1)) (op2 idxD (var2 0) (op2 addD (var2 1) (con2 (.int 1)))))) (op2 addD (slc2 (var2 0) noPart2 (part2 (var2 1))) (slc2 (var2 0) (part2 (op2 addD (var2 1) (con2 (.int 2)))) noPart2)) [1]))
def F_law_strikes : FnD := fnD 2 1 tb_law_strikes
theorem F_law_strikes_eq (ds : List D) (m : Mu) : F_law_strikes ds m = fnD 2 1 tb_law_strikes ds m := (rfl)
theorem tb_law_strikes_eq (δ : Dl) (m : Mu) : tb_law_strikes δ m = (ret2 (lc2 (on2 rg1D (cons2 (op2 subD (on2 lenD (cons2 (var2 0) nil2)) (con2 (.int 1))) nil2)) (name2 1) (bool2 (op2 eqD (op2 idxD (var2 0) (var2 1)) (op2 idxD (var2 0) (op2 addD (var2 1) (con2 (.int 1)))))) (op2 addD (slc2 (var2 0) noPart2 (part2 (var2 1))) (slc2 (var2 0) (part2 (op2 addD (var2 1) (con2 (.int 2)))) noPart2)) [1])) δ m := (rfl)
def tb_law_class : Dl → Mu → Ro := (seq2 (forS (on2 rg1D (cons2 (con2 (.int 100)) nil2)) (name2 2)
      (seq2 (asg2 (on2 F_law_turned_all (cons2 (var2 0) (cons2 (var2 1) nil2))) (name2 3))
      (seq2 (asg2 (lst2 nil2) (name2 4))
      (seq2 (forS (it2 (var2 3)) (name2 5)
      (asg2 (op2 addD (var2 4) (slc2 (on2 F_law_strikes (cons2 (var2 5) nil2)) noPart2 (part2 (con2 (.int 1))))) (name2 4)))
      (seq2 (if2 (bool2 (op2 eqD (var2 4) (lst2 nil2)))
      (ret2 (on2 sorted2 (cons2 (var2 3) nil2)))
      nop2)
      (asg2 (op2 idxD (var2 4) (con2 (.int 0))) (name2 1)))))))
      (ret2 (lst2 nil2)))
def F_law_class : FnD := fnD 6 2 tb_law_class
theorem F_law_class_eq (ds : List D) (m : Mu) : F_law_class ds m = fnD 6 2 tb_law_class ds m := (rfl)
theorem tb_law_class_eq (δ : Dl) (m : Mu) : tb_law_class δ m = (seq2 (forS (on2 rg1D (cons2 (con2 (.int 100)) nil2)) (name2 2)
      (seq2 (asg2 (on2 F_law_turned_all (cons2 (var2 0) (cons2 (var2 1) nil2))) (name2 3))
      (seq2 (asg2 (lst2 nil2) (name2 4))
      (seq2 (forS (it2 (var2 3)) (name2 5)
      (asg2 (op2 addD (var2 4) (slc2 (on2 F_law_strikes (cons2 (var2 5) nil2)) noPart2 (part2 (con2 (.int 1))))) (name2 4)))
      (seq2 (if2 (bool2 (op2 eqD (var2 4) (lst2 nil2)))
      (ret2 (on2 sorted2 (cons2 (var2 3) nil2)))
      nop2)
      (asg2 (op2 idxD (var2 4) (con2 (.int 0))) (name2 1)))))))
      (ret2 (lst2 nil2))) δ m := (rfl)
def tb_law_shortest_of : Dl → Mu → Ro := (seq2 (asg2 (op2 idxD (on2 F_law_class (cons2 (var2 0) (cons2 (var2 1) nil2))) (con2 (.int 0))) (name2 1))
      (seq2 (forS (on2 rg1D (cons2 (con2 (.int 20)) nil2)) (name2 4)
      (seq2 (asg2 (op2 addD (lc2 (it2 (var2 2)) (name2 7) yes2 (op2 addD (var2 7) (var2 1)) [7]) (lc2 (it2 (var2 3)) (name2 7) yes2 (op2 addD (var2 1) (var2 7)) [7])) (name2 5))
      (seq2 (asg2 (lc2 (it2 (var2 5)) (name2 8) yes2 (op2 idxD (on2 F_law_class (cons2 (var2 0) (cons2 (var2 8) nil2))) (con2 (.int 0))) [8]) (name2 6))
      (seq2 (asg2 (lc2 (it2 (var2 6)) (name2 8) (bool2 (op2 ltD (on2 lenD (cons2 (var2 8) nil2)) (on2 lenD (cons2 (var2 1) nil2)))) (var2 8) [8]) (name2 6))
      (seq2 (if2 (bool2 (op2 eqD (var2 6) (lst2 nil2)))
      (ret2 (var2 1))
      nop2)
      (asg2 (op2 idxD (var2 6) (con2 (.int 0))) (name2 1)))))))
      (ret2 (var2 1))))
def F_law_shortest_of : FnD := fnD 9 4 tb_law_shortest_of
theorem F_law_shortest_of_eq (ds : List D) (m : Mu) : F_law_shortest_of ds m = fnD 9 4 tb_law_shortest_of ds m := (rfl)
theorem tb_law_shortest_of_eq (δ : Dl) (m : Mu) : tb_law_shortest_of δ m = (seq2 (asg2 (op2 idxD (on2 F_law_class (cons2 (var2 0) (cons2 (var2 1) nil2))) (con2 (.int 0))) (name2 1))
      (seq2 (forS (on2 rg1D (cons2 (con2 (.int 20)) nil2)) (name2 4)
      (seq2 (asg2 (op2 addD (lc2 (it2 (var2 2)) (name2 7) yes2 (op2 addD (var2 7) (var2 1)) [7]) (lc2 (it2 (var2 3)) (name2 7) yes2 (op2 addD (var2 1) (var2 7)) [7])) (name2 5))
      (seq2 (asg2 (lc2 (it2 (var2 5)) (name2 8) yes2 (op2 idxD (on2 F_law_class (cons2 (var2 0) (cons2 (var2 8) nil2))) (con2 (.int 0))) [8]) (name2 6))
      (seq2 (asg2 (lc2 (it2 (var2 6)) (name2 8) (bool2 (op2 ltD (on2 lenD (cons2 (var2 8) nil2)) (on2 lenD (cons2 (var2 1) nil2)))) (var2 8) [8]) (name2 6))
      (seq2 (if2 (bool2 (op2 eqD (var2 6) (lst2 nil2)))
      (ret2 (var2 1))
      nop2)
      (asg2 (op2 idxD (var2 6) (con2 (.int 0))) (name2 1)))))))
      (ret2 (var2 1)))) δ m := (rfl)
def tb_law_right : Dl → Mu → Ro := (seq2 (forS (on2 rg1D (cons2 (con2 (.int 5)) nil2)) (name2 1)
      (seq2 (asg2 (on2 F_law_plan (cons2 (var2 0) (cons2 (con2 (.int 4)) nil2))) (name2 2))
      (seq2 (par2 3 4 (cons2 (on2 F_law_made (cons2 (var2 2) nil2)) (cons2 (on2 F_law_word (cons2 (var2 0) (cons2 (var2 2) (cons2 (con2 (.int 7)) nil2)))) nil2)))
      (seq2 (asg2 (tup2 (cons2 (on2 F_law_lot (cons2 (var2 0) (cons2 (var2 2) nil2))) (cons2 (on2 F_law_lot (cons2 (var2 0) (cons2 (var2 2) nil2))) nil2))) (tupG 2 (gcons2 (name2 5) (gcons2 (name2 6) gnil2))))
      (seq2 (asg2 (on2 F_parted (cons2 (var2 3) (cons2 (var2 4) (cons2 (var2 5) nil2)))) (name2 7))
      (seq2 (if2 (orT (notT (tst2 (on2 (isinstD ["Mirrors"]) (cons2 (var2 7) (cons2 (con2 (.ty "tuple")) nil2))))) (orT (bool2 (op2 neD (on2 lenD (cons2 (var2 7) nil2)) (con2 (.int 2)))) (bool2 (op2 neD (call2K F_parted 0 3 [2, 1, 0] nil2 (cons2 (var2 5) (cons2 (var2 4) (cons2 (var2 3) nil2)))) (var2 7)))))
      (ret2 (con2 (.bl false)))
      nop2)
      (seq2 (asg2 (var2 7) (tupG 2 (gcons2 (name2 8) (gcons2 (name2 9) gnil2))))
      (seq2 (if2 (orT (bool2 (op2 neD (var2 8) (on2 F_law_shortest_of (cons2 (var2 2) (cons2 (var2 4) (cons2 (con2 (.str (ofS ""))) (cons2 (var2 5) nil2))))))) (bool2 (op2 neD (lc2 (it2 (var2 9)) (name2 11) (bool2 (op2 notInD (var2 11) (var2 5))) (var2 11) [11]) (lst2 nil2))))
      (ret2 (con2 (.bl false)))
      nop2)
      (seq2 (if2 (orT (bool2 (op2 neD (on2 F_law_class (cons2 (var2 2) (cons2 (op2 addD (var2 8) (var2 9)) nil2))) (on2 F_law_class (cons2 (var2 2) (cons2 (var2 4) nil2))))) (bool2 (op2 neD (op2 idxD (on2 F_law_class (cons2 (var2 2) (cons2 (var2 9) nil2))) (con2 (.int 0))) (var2 9))))
      (ret2 (con2 (.bl false)))
      nop2)
      (seq2 (if2 (bool2 (op2 neD (op2 addD (on2 lenD (cons2 (var2 8) nil2)) (on2 lenD (cons2 (var2 9) nil2))) (on2 lenD (cons2 (op2 idxD (on2 F_law_class (cons2 (var2 2) (cons2 (var2 4) nil2))) (con2 (.int 0))) nil2))))
      (ret2 (con2 (.bl false)))
      nop2)
      (seq2 (asg2 (on2 F_law_shortest_of (cons2 (var2 2) (cons2 (var2 4) (cons2 (var2 5) (cons2 (var2 6) nil2))))) (name2 10))
      (seq2 (if2 (bool2 (op2 neD (on2 reprD (cons2 (lst2 (cons2 (on2 F_inner (cons2 (var2 3) (cons2 (var2 5) (cons2 (var2 4) (cons2 (var2 6) nil2))))) (cons2 (call2K F_inner 0 4 [3, 2, 1, 0] nil2 (cons2 (var2 6) (cons2 (var2 4) (cons2 (var2 5) (cons2 (var2 3) nil2))))) nil2))) nil2)) (on2 reprD (cons2 (lst2 (cons2 (var2 10) (cons2 (var2 10) nil2))) nil2))))
      (ret2 (con2 (.bl false)))
      nop2)
      (seq2 (asg2 (bm2 "str" joinM (con2 (.str (ofS ""))) (cons2 (on2 sorted2 (cons2 (on2 dictP (cons2 (lc2 (it2 (op2 idxD (on2 F_law_class (cons2 (var2 2) (cons2 (var2 4) nil2))) (con2 (.int 0)))) (name2 11) yes2 (tup2 (cons2 (var2 11) (cons2 (con2 (.bl true)) nil2))) [11]) nil2)) nil2)) nil2)) (name2 10))
      (seq2 (if2 (bool2 (op2 neD (on2 reprD (cons2 (lst2 (cons2 (on2 F_support (cons2 (var2 3) (cons2 (var2 4) nil2))) (cons2 (call2K F_support 0 2 [1, 0] nil2 (cons2 (var2 4) (cons2 (var2 3) nil2))) nil2))) nil2)) (on2 reprD (cons2 (lst2 (cons2 (var2 10) (cons2 (var2 10) nil2))) nil2))))
      (ret2 (con2 (.bl false)))
      nop2)
      (seq2 (asg2 (op2 eqD (lc2 (it2 (var2 10)) (name2 11) (bool2 (op2 notInD (var2 11) (var2 5))) (var2 11) [11]) (lst2 nil2)) (name2 10))
      (if2 (bool2 (op2 neD (on2 reprD (cons2 (lst2 (cons2 (on2 F_is_part (cons2 (var2 3) (cons2 (var2 4) (cons2 (var2 5) nil2)))) (cons2 (call2K F_is_part 0 3 [2, 1, 0] nil2 (cons2 (var2 5) (cons2 (var2 4) (cons2 (var2 3) nil2)))) nil2))) nil2)) (on2 reprD (cons2 (lst2 (cons2 (var2 10) (cons2 (var2 10) nil2))) nil2))))
      (ret2 (con2 (.bl false)))
      nop2))))))))))))))))
      (ret2 (con2 (.bl true))))
def F_law_right : FnD := fnD 12 1 tb_law_right
theorem F_law_right_eq (ds : List D) (m : Mu) : F_law_right ds m = fnD 12 1 tb_law_right ds m := (rfl)
theorem tb_law_right_eq (δ : Dl) (m : Mu) : tb_law_right δ m = (seq2 (forS (on2 rg1D (cons2 (con2 (.int 5)) nil2)) (name2 1)
      (seq2 (asg2 (on2 F_law_plan (cons2 (var2 0) (cons2 (con2 (.int 4)) nil2))) (name2 2))
      (seq2 (par2 3 4 (cons2 (on2 F_law_made (cons2 (var2 2) nil2)) (cons2 (on2 F_law_word (cons2 (var2 0) (cons2 (var2 2) (cons2 (con2 (.int 7)) nil2)))) nil2)))
      (seq2 (asg2 (tup2 (cons2 (on2 F_law_lot (cons2 (var2 0) (cons2 (var2 2) nil2))) (cons2 (on2 F_law_lot (cons2 (var2 0) (cons2 (var2 2) nil2))) nil2))) (tupG 2 (gcons2 (name2 5) (gcons2 (name2 6) gnil2))))
      (seq2 (asg2 (on2 F_parted (cons2 (var2 3) (cons2 (var2 4) (cons2 (var2 5) nil2)))) (name2 7))
      (seq2 (if2 (orT (notT (tst2 (on2 (isinstD ["Mirrors"]) (cons2 (var2 7) (cons2 (con2 (.ty "tuple")) nil2))))) (orT (bool2 (op2 neD (on2 lenD (cons2 (var2 7) nil2)) (con2 (.int 2)))) (bool2 (op2 neD (call2K F_parted 0 3 [2, 1, 0] nil2 (cons2 (var2 5) (cons2 (var2 4) (cons2 (var2 3) nil2)))) (var2 7)))))
      (ret2 (con2 (.bl false)))
      nop2)
      (seq2 (asg2 (var2 7) (tupG 2 (gcons2 (name2 8) (gcons2 (name2 9) gnil2))))
      (seq2 (if2 (orT (bool2 (op2 neD (var2 8) (on2 F_law_shortest_of (cons2 (var2 2) (cons2 (var2 4) (cons2 (con2 (.str (ofS ""))) (cons2 (var2 5) nil2))))))) (bool2 (op2 neD (lc2 (it2 (var2 9)) (name2 11) (bool2 (op2 notInD (var2 11) (var2 5))) (var2 11) [11]) (lst2 nil2))))
      (ret2 (con2 (.bl false)))
      nop2)
      (seq2 (if2 (orT (bool2 (op2 neD (on2 F_law_class (cons2 (var2 2) (cons2 (op2 addD (var2 8) (var2 9)) nil2))) (on2 F_law_class (cons2 (var2 2) (cons2 (var2 4) nil2))))) (bool2 (op2 neD (op2 idxD (on2 F_law_class (cons2 (var2 2) (cons2 (var2 9) nil2))) (con2 (.int 0))) (var2 9))))
      (ret2 (con2 (.bl false)))
      nop2)
      (seq2 (if2 (bool2 (op2 neD (op2 addD (on2 lenD (cons2 (var2 8) nil2)) (on2 lenD (cons2 (var2 9) nil2))) (on2 lenD (cons2 (op2 idxD (on2 F_law_class (cons2 (var2 2) (cons2 (var2 4) nil2))) (con2 (.int 0))) nil2))))
      (ret2 (con2 (.bl false)))
      nop2)
      (seq2 (asg2 (on2 F_law_shortest_of (cons2 (var2 2) (cons2 (var2 4) (cons2 (var2 5) (cons2 (var2 6) nil2))))) (name2 10))
      (seq2 (if2 (bool2 (op2 neD (on2 reprD (cons2 (lst2 (cons2 (on2 F_inner (cons2 (var2 3) (cons2 (var2 5) (cons2 (var2 4) (cons2 (var2 6) nil2))))) (cons2 (call2K F_inner 0 4 [3, 2, 1, 0] nil2 (cons2 (var2 6) (cons2 (var2 4) (cons2 (var2 5) (cons2 (var2 3) nil2))))) nil2))) nil2)) (on2 reprD (cons2 (lst2 (cons2 (var2 10) (cons2 (var2 10) nil2))) nil2))))
      (ret2 (con2 (.bl false)))
      nop2)
      (seq2 (asg2 (bm2 "str" joinM (con2 (.str (ofS ""))) (cons2 (on2 sorted2 (cons2 (on2 dictP (cons2 (lc2 (it2 (op2 idxD (on2 F_law_class (cons2 (var2 2) (cons2 (var2 4) nil2))) (con2 (.int 0)))) (name2 11) yes2 (tup2 (cons2 (var2 11) (cons2 (con2 (.bl true)) nil2))) [11]) nil2)) nil2)) nil2)) (name2 10))
      (seq2 (if2 (bool2 (op2 neD (on2 reprD (cons2 (lst2 (cons2 (on2 F_support (cons2 (var2 3) (cons2 (var2 4) nil2))) (cons2 (call2K F_support 0 2 [1, 0] nil2 (cons2 (var2 4) (cons2 (var2 3) nil2))) nil2))) nil2)) (on2 reprD (cons2 (lst2 (cons2 (var2 10) (cons2 (var2 10) nil2))) nil2))))
      (ret2 (con2 (.bl false)))
      nop2)
      (seq2 (asg2 (op2 eqD (lc2 (it2 (var2 10)) (name2 11) (bool2 (op2 notInD (var2 11) (var2 5))) (var2 11) [11]) (lst2 nil2)) (name2 10))
      (if2 (bool2 (op2 neD (on2 reprD (cons2 (lst2 (cons2 (on2 F_is_part (cons2 (var2 3) (cons2 (var2 4) (cons2 (var2 5) nil2)))) (cons2 (call2K F_is_part 0 3 [2, 1, 0] nil2 (cons2 (var2 5) (cons2 (var2 4) (cons2 (var2 3) nil2)))) nil2))) nil2)) (on2 reprD (cons2 (lst2 (cons2 (var2 10) (cons2 (var2 10) nil2))) nil2))))
      (ret2 (con2 (.bl false)))
      nop2))))))))))))))))
      (ret2 (con2 (.bl true)))) δ m := (rfl)
def tb_law_tub : Dl → Mu → Ro := (seq2 (asg2 (ifV (bool2 (op2 ltD (var2 1) (on2 lenD (cons2 (var2 0) nil2)))) (on2 intD (cons2 (op2 idxD (var2 0) (var2 1)) nil2)) (op2 addD (op2 mulD (con2 (.int 83)) (var2 1)) (con2 (.int 37)))) (name2 2))
      (seq2 (asg2 (op2 addD (con2 (.int 70001)) (op2 mulD (con2 (.int 1019)) (var2 1))) (name2 3))
      (seq2 (forS (it2 (slc2 (var2 0) noPart2 (part2 (con2 (.int 8))))) (name2 4)
      (asg2 (op2 modD (on2 intD (cons2 (op2 addD (op2 addD (op2 mulD (var2 3) (con2 (.int 39373))) (op2 modD (on2 intD (cons2 (var2 4) nil2)) (con2 (.int 999883)))) (var2 1)) nil2)) (con2 (.int 2147483563))) (name2 3)))
      (seq2 (asg2 (op2 modD (on2 intD (cons2 (op2 addD (op2 mulD (var2 3) (con2 (.int 39373))) (op2 modD (on2 intD (cons2 (var2 2) nil2)) (con2 (.int 999883)))) nil2)) (con2 (.int 2147483563))) (name2 3))
      (ret2 (lstM (cons2 (ifV (bool2 (op2 geD (on2 absD (cons2 (var2 2) nil2)) (op2 powD (con2 (.int 10)) (con2 (.int 18))))) (on2 absD (cons2 (var2 2) nil2)) (con2 (.int 0))) (cons2 (var2 3) (cons2 (con2 (.int 0)) nil2)))))))))
def F_law_tub : FnD := fnD 5 2 tb_law_tub
theorem F_law_tub_eq (ds : List D) (m : Mu) : F_law_tub ds m = fnD 5 2 tb_law_tub ds m := (rfl)
theorem tb_law_tub_eq (δ : Dl) (m : Mu) : tb_law_tub δ m = (seq2 (asg2 (ifV (bool2 (op2 ltD (var2 1) (on2 lenD (cons2 (var2 0) nil2)))) (on2 intD (cons2 (op2 idxD (var2 0) (var2 1)) nil2)) (op2 addD (op2 mulD (con2 (.int 83)) (var2 1)) (con2 (.int 37)))) (name2 2))
      (seq2 (asg2 (op2 addD (con2 (.int 70001)) (op2 mulD (con2 (.int 1019)) (var2 1))) (name2 3))
      (seq2 (forS (it2 (slc2 (var2 0) noPart2 (part2 (con2 (.int 8))))) (name2 4)
      (asg2 (op2 modD (on2 intD (cons2 (op2 addD (op2 addD (op2 mulD (var2 3) (con2 (.int 39373))) (op2 modD (on2 intD (cons2 (var2 4) nil2)) (con2 (.int 999883)))) (var2 1)) nil2)) (con2 (.int 2147483563))) (name2 3)))
      (seq2 (asg2 (op2 modD (on2 intD (cons2 (op2 addD (op2 mulD (var2 3) (con2 (.int 39373))) (op2 modD (on2 intD (cons2 (var2 2) nil2)) (con2 (.int 999883)))) nil2)) (con2 (.int 2147483563))) (name2 3))
      (ret2 (lstM (cons2 (ifV (bool2 (op2 geD (on2 absD (cons2 (var2 2) nil2)) (op2 powD (con2 (.int 10)) (con2 (.int 18))))) (on2 absD (cons2 (var2 2) nil2)) (con2 (.int 0))) (cons2 (var2 3) (cons2 (con2 (.int 0)) nil2))))))))) δ m := (rfl)
def tb_law : Dl → Mu → Ro := (seq2 (asg2 (cmeth2 "Mirrors" F_Mirrors_read (con2 (.glo "Mirrors")) (cons2 (con2 (.str (ofS "abc ab3 bc3"))) nil2)) (name2 1))
      (seq2 (if2 (bool2 (op2 neD (lst2 (cons2 (on2 F_parted (cons2 (var2 1) (cons2 (con2 (.str (ofS "cab"))) (cons2 (con2 (.str (ofS "ab"))) nil2)))) (cons2 (on2 F_parted (cons2 (var2 1) (cons2 (con2 (.str (ofS "abacba"))) (cons2 (con2 (.str (ofS "ab"))) nil2)))) (cons2 (on2 F_parted (cons2 (var2 1) (cons2 (con2 (.str (ofS "cab"))) (cons2 (con2 (.str (ofS ""))) nil2)))) (cons2 (on2 F_inner (cons2 (var2 1) (cons2 (con2 (.str (ofS "a"))) (cons2 (con2 (.str (ofS "abc"))) (cons2 (con2 (.str (ofS "c"))) nil2))))) (cons2 (on2 F_inner (cons2 (var2 1) (cons2 (con2 (.str (ofS "ab"))) (cons2 (con2 (.str (ofS "abacba"))) (cons2 (con2 (.str (ofS "ab"))) nil2))))) nil2)))))) (lst2 (cons2 (tup2 (cons2 (con2 (.str (ofS "c"))) (cons2 (con2 (.str (ofS "ab"))) nil2))) (cons2 (tup2 (cons2 (con2 (.str (ofS "abc"))) (cons2 (con2 (.str (ofS "aba"))) nil2))) (cons2 (tup2 (cons2 (con2 (.str (ofS "acb"))) (cons2 (con2 (.str (ofS ""))) nil2))) (cons2 (con2 (.str (ofS "b"))) (cons2 (con2 (.str (ofS "c"))) nil2))))))))
      (ret2 (con2 (.bl false)))
      nop2)
      (seq2 (if2 (bool2 (op2 neD (lst2 (cons2 (on2 F_is_part (cons2 (var2 1) (cons2 (con2 (.str (ofS "cac"))) (cons2 (con2 (.str (ofS "ab"))) nil2)))) (cons2 (on2 F_support (cons2 (var2 1) (cons2 (con2 (.str (ofS "abcb"))) nil2))) (cons2 (on2 F_support (cons2 (var2 1) (cons2 (con2 (.str (ofS "abab"))) nil2))) (cons2 (on2 F_support (cons2 (var2 1) (cons2 (con2 (.str (ofS ""))) nil2))) nil2))))) (lst2 (cons2 (con2 (.bl true)) (cons2 (con2 (.str (ofS "abc"))) (cons2 (con2 (.str (ofS "ab"))) (cons2 (con2 (.str (ofS ""))) nil2)))))))
      (ret2 (con2 (.bl false)))
      nop2)
      (ret2 (on2 allD (cons2 (lc2 (on2 rg1D (cons2 (on2 maxF (cons2 (con2 (.int 2)) (cons2 (on2 minF (cons2 (on2 lenD (cons2 (var2 0) nil2)) (cons2 (con2 (.int 4)) nil2))) nil2))) nil2)) (name2 2) yes2 (on2 F_law_right (cons2 (on2 F_law_tub (cons2 (var2 0) (cons2 (var2 2) nil2))) nil2)) [2]) nil2))))))
def F_law : FnD := fnD 3 1 tb_law
theorem F_law_eq (ds : List D) (m : Mu) : F_law ds m = fnD 3 1 tb_law ds m := (rfl)
theorem tb_law_eq (δ : Dl) (m : Mu) : tb_law δ m = (seq2 (asg2 (cmeth2 "Mirrors" F_Mirrors_read (con2 (.glo "Mirrors")) (cons2 (con2 (.str (ofS "abc ab3 bc3"))) nil2)) (name2 1))
      (seq2 (if2 (bool2 (op2 neD (lst2 (cons2 (on2 F_parted (cons2 (var2 1) (cons2 (con2 (.str (ofS "cab"))) (cons2 (con2 (.str (ofS "ab"))) nil2)))) (cons2 (on2 F_parted (cons2 (var2 1) (cons2 (con2 (.str (ofS "abacba"))) (cons2 (con2 (.str (ofS "ab"))) nil2)))) (cons2 (on2 F_parted (cons2 (var2 1) (cons2 (con2 (.str (ofS "cab"))) (cons2 (con2 (.str (ofS ""))) nil2)))) (cons2 (on2 F_inner (cons2 (var2 1) (cons2 (con2 (.str (ofS "a"))) (cons2 (con2 (.str (ofS "abc"))) (cons2 (con2 (.str (ofS "c"))) nil2))))) (cons2 (on2 F_inner (cons2 (var2 1) (cons2 (con2 (.str (ofS "ab"))) (cons2 (con2 (.str (ofS "abacba"))) (cons2 (con2 (.str (ofS "ab"))) nil2))))) nil2)))))) (lst2 (cons2 (tup2 (cons2 (con2 (.str (ofS "c"))) (cons2 (con2 (.str (ofS "ab"))) nil2))) (cons2 (tup2 (cons2 (con2 (.str (ofS "abc"))) (cons2 (con2 (.str (ofS "aba"))) nil2))) (cons2 (tup2 (cons2 (con2 (.str (ofS "acb"))) (cons2 (con2 (.str (ofS ""))) nil2))) (cons2 (con2 (.str (ofS "b"))) (cons2 (con2 (.str (ofS "c"))) nil2))))))))
      (ret2 (con2 (.bl false)))
      nop2)
      (seq2 (if2 (bool2 (op2 neD (lst2 (cons2 (on2 F_is_part (cons2 (var2 1) (cons2 (con2 (.str (ofS "cac"))) (cons2 (con2 (.str (ofS "ab"))) nil2)))) (cons2 (on2 F_support (cons2 (var2 1) (cons2 (con2 (.str (ofS "abcb"))) nil2))) (cons2 (on2 F_support (cons2 (var2 1) (cons2 (con2 (.str (ofS "abab"))) nil2))) (cons2 (on2 F_support (cons2 (var2 1) (cons2 (con2 (.str (ofS ""))) nil2))) nil2))))) (lst2 (cons2 (con2 (.bl true)) (cons2 (con2 (.str (ofS "abc"))) (cons2 (con2 (.str (ofS "ab"))) (cons2 (con2 (.str (ofS ""))) nil2)))))))
      (ret2 (con2 (.bl false)))
      nop2)
      (ret2 (on2 allD (cons2 (lc2 (on2 rg1D (cons2 (on2 maxF (cons2 (con2 (.int 2)) (cons2 (on2 minF (cons2 (on2 lenD (cons2 (var2 0) nil2)) (cons2 (con2 (.int 4)) nil2))) nil2))) nil2)) (name2 2) yes2 (on2 F_law_right (cons2 (on2 F_law_tub (cons2 (var2 0) (cons2 (var2 2) nil2))) nil2)) [2]) nil2)))))) δ m := (rfl)
/-! ### what the top has written -/
abbrev st_is_angle : Stmt := top 18
abbrev st_angles_fault : Stmt := top 19
abbrev st_parts_in : Stmt := top 21
abbrev st_is_integer : Stmt := top 12
abbrev st_is_between : Stmt := top 13
abbrev st_check_number : Stmt := top 14
abbrev st_Mirrors_init : Stmt := inClass (top 20) 0
abbrev st_Mirrors_read : Stmt := inClass (top 20) 1
abbrev st_check_mirrors : Stmt := top 22
abbrev st_Mirrors_letters : Stmt := inClass (top 20) 2
abbrev st_check_lot : Stmt := top 25
abbrev st_is_word : Stmt := top 23
abbrev st_check_word : Stmt := top 24
abbrev st_check_asked : Stmt := top 36
abbrev st_number_of : Stmt := top 26
abbrev st_weight : Stmt := top 29
abbrev st_weights_of : Stmt := top 30
abbrev st_sent_by : Stmt := top 31
abbrev st_sent : Stmt := top 32
abbrev st_single : Stmt := top 33
abbrev st_all_sent : Stmt := top 34
abbrev st_is_below : Stmt := top 35
abbrev st_falls : Stmt := top 39
abbrev st_first_fall : Stmt := top 43
abbrev st_times_letter : Stmt := top 38
abbrev st_words_from : Stmt := top 40
abbrev st_first_of : Stmt := top 41
abbrev st_cut_off : Stmt := top 44
abbrev st_both_cut : Stmt := top 47
abbrev st_inner : Stmt := top 46
abbrev st_parted : Stmt := top 45
abbrev st_support_of : Stmt := top 48
abbrev st_support : Stmt := top 50
abbrev st_is_part : Stmt := top 49
abbrev st_law_sip : Stmt := top 53
abbrev st_law_pick : Stmt := top 54
abbrev st_law_plan : Stmt := top 55
abbrev st_law_angles : Stmt := top 56
abbrev st_law_made : Stmt := top 57
abbrev st_law_word : Stmt := top 59
abbrev st_law_lot : Stmt := top 64
abbrev st_law_m : Stmt := top 58
abbrev st_law_turns : Stmt := top 60
abbrev st_law_turned_all : Stmt := top 62
abbrev st_law_strikes : Stmt := top 61
abbrev st_law_class : Stmt := top 63
abbrev st_law_shortest_of : Stmt := top 65
abbrev st_law_right : Stmt := top 66
abbrev st_law_tub : Stmt := top 52
abbrev st_law : Stmt := top 67
theorem bk_Mirrors_init_3 : BK "__init__" "Mirrors.__init__" st_Mirrors_init ["self", "size", "angles"] [] 3 [0, 1, 2] := fun _ _ _ _ _ _ us ws h1 h2 => match us, ws, h1, h2 with | [_, _, _], [], _, _ => rfl
theorem bk_parted_0_lot_word_mirrors : BK "parted" "parted" st_parted ["mirrors", "word", "lot"] ["lot", "word", "mirrors"] 0 [2, 1, 0] := fun _ _ _ _ _ _ us ws h1 h2 => match us, ws, h1, h2 with | [], [_, _, _], _, _ => rfl
theorem bk_inner_0_rest_word_lot_mirrors : BK "inner" "inner" st_inner ["mirrors", "lot", "word", "rest"] ["rest", "word", "lot", "mirrors"] 0 [3, 2, 1, 0] := fun _ _ _ _ _ _ us ws h1 h2 => match us, ws, h1, h2 with | [], [_, _, _, _], _, _ => rfl
theorem bk_support_0_word_mirrors : BK "support" "support" st_support ["mirrors", "word"] ["word", "mirrors"] 0 [1, 0] := fun _ _ _ _ _ _ us ws h1 h2 => match us, ws, h1, h2 with | [], [_, _], _, _ => rfl
theorem bk_is_part_0_lot_word_mirrors : BK "is_part" "is_part" st_is_part ["mirrors", "word", "lot"] ["lot", "word", "mirrors"] 0 [2, 1, 0] := fun _ _ _ _ _ _ us ws h1 h2 => match us, ws, h1, h2 with | [], [_, _, _], _, _ => rfl
structure TX (P : Program) (w : World) (K : PySem.W.Frag) (mg : Str → Option Value) (cMirrors : Addr) (aNUMBERS : Addr) (aONES : Addr) : Prop where
  b_str : mg "str" = none
  b_isinstance : mg "isinstance" = none
  b_len : mg "len" = none
  b_all : mg "all" = none
  b_tuple : mg "tuple" = none
  b_enumerate : mg "enumerate" = none
  b_int : mg "int" = none
  b_bool : mg "bool" = none
  b_zip : mg "zip" = none
  b_sorted : mg "sorted" = none
  b_range : mg "range" = none
  b_sum : mg "sum" = none
  b_min : mg "min" = none
  b_max : mg "max" = none
  b_repr : mg "repr" = none
  b_dict : mg "dict" = none
  b_abs : mg "abs" = none
  g_MOST_LETTERS : ∃ t, mg "MOST_LETTERS" = some (.int 6 t)
  g_LETTERS : ∃ t, mg "LETTERS" = some (.str (nm "abcdefghijklmnopqrstuvwxyz") t)
  g_MOST_WORD : ∃ t, mg "MOST_WORD" = some (.int 60 t)
  g_PLAIN : ∃ t, mg "PLAIN" = some (.int 2 t)
  m_NUMBERS : mg "NUMBERS" = some (.ref aNUMBERS)
  d_NUMBERS : KDic K w aNUMBERS kk_NUMBERS kv_NUMBERS
  m_ONES : mg "ONES" = some (.ref aONES)
  d_ONES : KDic K w aONES kk_ONES kv_ONES
  co_Mirrors : ClsOK K mg "Mirrors" cMirrors
  m_Mirrors : mg "Mirrors" = some (.ref cMirrors)
  na_Mirrors_size : NoAttr K cMirrors (nm "size")
  na_Mirrors_angles : NoAttr K cMirrors (nm "angles")
  is1 : PySem.W.findIn K (.ref cMirrors) "__class__" = some (some (.builtin "object.__class__"))
  is2 : PySem.W.specialIn K (.builtin "object.__class__") "__get__" = some (some (.builtin "getset_descriptor.__get__"))
  is3 : PySem.W.takesIn K (.builtin "object.__class__") = some true
  is4 : PySem.W.mroIn K cMirrors (.type "object") = some true
  is5 : PySem.W.isClsIn K cMirrors = true
  is6 : PySem.W.typeIn K (.ref cMirrors) = some (.type "type")
  is7 : ∀ b ∈ ["int", "str", "bool", "tuple", "list", "dict"], PySem.W.subIn K (.ref cMirrors) (.type b) = some false
  is8 : ∀ a ∈ ["NoneType", "bool", "int", "str", "tuple", "list", "dict"], PySem.W.subIn K (.type a) (.ref cMirrors) = some false
  f_is_angle : ∃ f fd, mg "is_angle" = some (.ref f) ∧ PySem.W.keepIn K (.ref f) = true ∧ Fun K "is_angle" "is_angle" st_is_angle f fd
  f_angles_fault : ∃ f fd, mg "angles_fault" = some (.ref f) ∧ PySem.W.keepIn K (.ref f) = true ∧ Fun K "angles_fault" "angles_fault" st_angles_fault f fd
  f_parts_in : ∃ f fd, mg "parts_in" = some (.ref f) ∧ PySem.W.keepIn K (.ref f) = true ∧ Fun K "parts_in" "parts_in" st_parts_in f fd
  f_is_integer : ∃ f fd, mg "is_integer" = some (.ref f) ∧ PySem.W.keepIn K (.ref f) = true ∧ Fun K "is_integer" "is_integer" st_is_integer f fd
  f_is_between : ∃ f fd, mg "is_between" = some (.ref f) ∧ PySem.W.keepIn K (.ref f) = true ∧ Fun K "is_between" "is_between" st_is_between f fd
  f_check_number : ∃ f fd, mg "check_number" = some (.ref f) ∧ PySem.W.keepIn K (.ref f) = true ∧ Fun K "check_number" "check_number" st_check_number f fd
  f_Mirrors_init : ∃ f fd, Mk K cMirrors f ∧ Fun K "__init__" "Mirrors.__init__" st_Mirrors_init f fd
  f_Mirrors_read : ∃ mc p f fd, ClX.CRead K cMirrors mc ∧ ClX.CMet K cMirrors mc (nm "read") p f ∧ Fun K "read" "Mirrors.read" st_Mirrors_read f fd
  f_check_mirrors : ∃ f fd, mg "check_mirrors" = some (.ref f) ∧ PySem.W.keepIn K (.ref f) = true ∧ Fun K "check_mirrors" "check_mirrors" st_check_mirrors f fd
  f_Mirrors_letters : ∃ p f fd, PropOf K cMirrors (nm "letters") p f ∧ Fun K "letters" "Mirrors.letters" st_Mirrors_letters f fd
  f_check_lot : ∃ f fd, mg "check_lot" = some (.ref f) ∧ PySem.W.keepIn K (.ref f) = true ∧ Fun K "check_lot" "check_lot" st_check_lot f fd
  f_is_word : ∃ f fd, mg "is_word" = some (.ref f) ∧ PySem.W.keepIn K (.ref f) = true ∧ Fun K "is_word" "is_word" st_is_word f fd
  f_check_word : ∃ f fd, mg "check_word" = some (.ref f) ∧ PySem.W.keepIn K (.ref f) = true ∧ Fun K "check_word" "check_word" st_check_word f fd
  f_check_asked : ∃ f fd, mg "check_asked" = some (.ref f) ∧ PySem.W.keepIn K (.ref f) = true ∧ Fun K "check_asked" "check_asked" st_check_asked f fd
  f_number_of : ∃ f fd, mg "number_of" = some (.ref f) ∧ PySem.W.keepIn K (.ref f) = true ∧ Fun K "number_of" "number_of" st_number_of f fd
  f_weight : ∃ f fd, mg "weight" = some (.ref f) ∧ PySem.W.keepIn K (.ref f) = true ∧ Fun K "weight" "weight" st_weight f fd
  f_weights_of : ∃ f fd, mg "weights_of" = some (.ref f) ∧ PySem.W.keepIn K (.ref f) = true ∧ Fun K "weights_of" "weights_of" st_weights_of f fd
  f_sent_by : ∃ f fd, mg "sent_by" = some (.ref f) ∧ PySem.W.keepIn K (.ref f) = true ∧ Fun K "sent_by" "sent_by" st_sent_by f fd
  f_sent : ∃ f fd, mg "sent" = some (.ref f) ∧ PySem.W.keepIn K (.ref f) = true ∧ Fun K "sent" "sent" st_sent f fd
  f_single : ∃ f fd, mg "single" = some (.ref f) ∧ PySem.W.keepIn K (.ref f) = true ∧ Fun K "single" "single" st_single f fd
  f_all_sent : ∃ f fd, mg "all_sent" = some (.ref f) ∧ PySem.W.keepIn K (.ref f) = true ∧ Fun K "all_sent" "all_sent" st_all_sent f fd
  f_is_below : ∃ f fd, mg "is_below" = some (.ref f) ∧ PySem.W.keepIn K (.ref f) = true ∧ Fun K "is_below" "is_below" st_is_below f fd
  f_falls : ∃ f fd, mg "falls" = some (.ref f) ∧ PySem.W.keepIn K (.ref f) = true ∧ Fun K "falls" "falls" st_falls f fd
  f_first_fall : ∃ f fd, mg "first_fall" = some (.ref f) ∧ PySem.W.keepIn K (.ref f) = true ∧ Fun K "first_fall" "first_fall" st_first_fall f fd
  f_times_letter : ∃ f fd, mg "times_letter" = some (.ref f) ∧ PySem.W.keepIn K (.ref f) = true ∧ Fun K "times_letter" "times_letter" st_times_letter f fd
  f_words_from : ∃ f fd, mg "words_from" = some (.ref f) ∧ PySem.W.keepIn K (.ref f) = true ∧ Fun K "words_from" "words_from" st_words_from f fd
  f_first_of : ∃ f fd, mg "first_of" = some (.ref f) ∧ PySem.W.keepIn K (.ref f) = true ∧ Fun K "first_of" "first_of" st_first_of f fd
  f_cut_off : ∃ f fd, mg "cut_off" = some (.ref f) ∧ PySem.W.keepIn K (.ref f) = true ∧ Fun K "cut_off" "cut_off" st_cut_off f fd
  f_both_cut : ∃ f fd, mg "both_cut" = some (.ref f) ∧ PySem.W.keepIn K (.ref f) = true ∧ Fun K "both_cut" "both_cut" st_both_cut f fd
  f_inner : ∃ f fd, mg "inner" = some (.ref f) ∧ PySem.W.keepIn K (.ref f) = true ∧ Fun K "inner" "inner" st_inner f fd
  f_parted : ∃ f fd, mg "parted" = some (.ref f) ∧ PySem.W.keepIn K (.ref f) = true ∧ Fun K "parted" "parted" st_parted f fd
  f_support_of : ∃ f fd, mg "support_of" = some (.ref f) ∧ PySem.W.keepIn K (.ref f) = true ∧ Fun K "support_of" "support_of" st_support_of f fd
  f_support : ∃ f fd, mg "support" = some (.ref f) ∧ PySem.W.keepIn K (.ref f) = true ∧ Fun K "support" "support" st_support f fd
  f_is_part : ∃ f fd, mg "is_part" = some (.ref f) ∧ PySem.W.keepIn K (.ref f) = true ∧ Fun K "is_part" "is_part" st_is_part f fd
  f_law_sip : ∃ f fd, mg "_law_sip" = some (.ref f) ∧ PySem.W.keepIn K (.ref f) = true ∧ Fun K "_law_sip" "_law_sip" st_law_sip f fd
  f_law_pick : ∃ f fd, mg "_law_pick" = some (.ref f) ∧ PySem.W.keepIn K (.ref f) = true ∧ Fun K "_law_pick" "_law_pick" st_law_pick f fd
  f_law_plan : ∃ f fd, mg "_law_plan" = some (.ref f) ∧ PySem.W.keepIn K (.ref f) = true ∧ Fun K "_law_plan" "_law_plan" st_law_plan f fd
  f_law_angles : ∃ f fd, mg "_law_angles" = some (.ref f) ∧ PySem.W.keepIn K (.ref f) = true ∧ Fun K "_law_angles" "_law_angles" st_law_angles f fd
  f_law_made : ∃ f fd, mg "_law_made" = some (.ref f) ∧ PySem.W.keepIn K (.ref f) = true ∧ Fun K "_law_made" "_law_made" st_law_made f fd
  f_law_word : ∃ f fd, mg "_law_word" = some (.ref f) ∧ PySem.W.keepIn K (.ref f) = true ∧ Fun K "_law_word" "_law_word" st_law_word f fd
  f_law_lot : ∃ f fd, mg "_law_lot" = some (.ref f) ∧ PySem.W.keepIn K (.ref f) = true ∧ Fun K "_law_lot" "_law_lot" st_law_lot f fd
  f_law_m : ∃ f fd, mg "_law_m" = some (.ref f) ∧ PySem.W.keepIn K (.ref f) = true ∧ Fun K "_law_m" "_law_m" st_law_m f fd
  f_law_turns : ∃ f fd, mg "_law_turns" = some (.ref f) ∧ PySem.W.keepIn K (.ref f) = true ∧ Fun K "_law_turns" "_law_turns" st_law_turns f fd
  f_law_turned_all : ∃ f fd, mg "_law_turned_all" = some (.ref f) ∧ PySem.W.keepIn K (.ref f) = true ∧ Fun K "_law_turned_all" "_law_turned_all" st_law_turned_all f fd
  f_law_strikes : ∃ f fd, mg "_law_strikes" = some (.ref f) ∧ PySem.W.keepIn K (.ref f) = true ∧ Fun K "_law_strikes" "_law_strikes" st_law_strikes f fd
  f_law_class : ∃ f fd, mg "_law_class" = some (.ref f) ∧ PySem.W.keepIn K (.ref f) = true ∧ Fun K "_law_class" "_law_class" st_law_class f fd
  f_law_shortest_of : ∃ f fd, mg "_law_shortest_of" = some (.ref f) ∧ PySem.W.keepIn K (.ref f) = true ∧ Fun K "_law_shortest_of" "_law_shortest_of" st_law_shortest_of f fd
  f_law_right : ∃ f fd, mg "_law_right" = some (.ref f) ∧ PySem.W.keepIn K (.ref f) = true ∧ Fun K "_law_right" "_law_right" st_law_right f fd
  f_law_tub : ∃ f fd, mg "_law_tub" = some (.ref f) ∧ PySem.W.keepIn K (.ref f) = true ∧ Fun K "_law_tub" "_law_tub" st_law_tub f fd
  f_law : ∃ f fd, mg "law" = some (.ref f) ∧ PySem.W.keepIn K (.ref f) = true ∧ Fun K "law" "law" st_law f fd
section
variable {P : Program} {w : World} {K : PySem.W.Frag} {mg : Str → Option Value} {base : Heap} {cMirrors : Addr} {aNUMBERS : Addr} {aONES : Addr}
theorem fl_size (T : TX P w K mg cMirrors aNUMBERS aONES) : ∀ c ∈ ["Mirrors"], ∃ C, ClsOK K mg c C ∧ NoAttr K C (nm "size") := by
  simp only [List.forall_mem_cons]
  exact ⟨⟨cMirrors, T.co_Mirrors, T.na_Mirrors_size⟩, fun _ z => absurd z (by simp)⟩
theorem fl_angles (T : TX P w K mg cMirrors aNUMBERS aONES) : ∀ c ∈ ["Mirrors"], ∃ C, ClsOK K mg c C ∧ NoAttr K C (nm "angles") := by
  simp only [List.forall_mem_cons]
  exact ⟨⟨cMirrors, T.co_Mirrors, T.na_Mirrors_angles⟩, fun _ z => absurd z (by simp)⟩
theorem TX.isok (T : TX P w K mg cMirrors aNUMBERS aONES) (X : Cx) (hK : X.K = K) (hm : X.mg = mg) : IsOk X ["Mirrors"] := by
  subst hK hm
  exact isOk_one T.co_Mirrors T.is1 T.is2 T.is3 T.is4 T.is5 T.is6 T.is7 T.is8
theorem sc_is_angle : FnScope ["value", "letters", "ahead", "low", "high", "number"] ["value", "letters", "ahead"] (defScope st_is_angle) := ⟨rfl, rfl, rfl, by decide +kernel, rfl, by decide +kernel, by decide +kernel⟩
theorem ok_is_angle (T : TX P w K mg cMirrors aNUMBERS aONES) : FnOK P w K mg base 1 "is_angle" "is_angle" st_is_angle ["value", "letters", "ahead"] F_is_angle := by
  obtain ⟨f, fd, h1, h2, h3⟩ := T.f_is_angle
  exact ⟨f, fd, h1, h2, h3, h3.binds (ps := ["value", "letters", "ahead"]) fun _ _ _ _ _ _ us hl => match us, hl with | [_, _, _], _ => rfl,
    okF (k := 0) (tb := tb_is_angle) h3 sc_is_angle rfl rfl fun cdv A outer s H E hr =>
      (ss_cons (s2_if (c2_bool (b2_or (c2_not (c2_val (e2_callB (cb_isinst (T.isok _ rfl rfl)) T.b_isinstance bt_isinstance (a2_cons (e2_var 0) (a2_cons (e2_bty T.b_tuple bt_tuple) a2_nil))))) (b2_or1 (c2_cmp (op_neD hr.u64) o_ne (e2_callB cb_len T.b_len bt_len (a2_cons (e2_var 0) a2_nil)) e2_int))))
      (ss_one (s2_ret e2_bl))
      ss_nil)
      (ss_cons (s2_asg (e2_var 0) (g2_tup rfl (gs_cons (g2_name (i := 3) sc_is_angle.nd rfl (Or.inl rfl)) (gs_cons (g2_name (i := 4) sc_is_angle.nd rfl (Or.inl rfl)) (gs_cons (g2_name (i := 5) sc_is_angle.nd rfl (Or.inl rfl)) gs_nil)))))
      (ss_cons (s2_if (c2_bool (b2_or (c2_not (c2_val (e2_callB (cb_isinst (T.isok _ rfl rfl)) T.b_isinstance bt_isinstance (a2_cons (e2_var 3) (a2_cons (e2_bty T.b_str bt_str) a2_nil))))) (b2_or (c2_not (c2_val (e2_callB (cb_isinst (T.isok _ rfl rfl)) T.b_isinstance bt_isinstance (a2_cons (e2_var 4) (a2_cons (e2_bty T.b_str bt_str) a2_nil))))) (b2_or (c2_cmp (op_neD hr.u64) o_ne (e2_callB cb_len T.b_len bt_len (a2_cons (e2_var 3) a2_nil)) e2_int) (b2_or1 (c2_cmp (op_neD hr.u64) o_ne (e2_callB cb_len T.b_len bt_len (a2_cons (e2_var 4) a2_nil)) e2_int))))))
      (ss_one (s2_ret e2_bl))
      ss_nil)
      (ss_cons (s2_if (c2_bool (b2_or (c2_cmp (p_notIn hr.u65) o_notIn (e2_var 3) (e2_var 1)) (b2_or (c2_cmp (p_notIn hr.u65) o_notIn (e2_var 4) (e2_var 1)) (b2_or (c2_not (c2_cmp p_lt o_lt (e2_var 2) (e2_op p_add o_add (e2_var 3) (e2_var 4)))) (b2_or1 (c2_not (c2_cmp p_lt o_lt (e2_var 3) (e2_var 4))))))))
      (ss_one (s2_ret e2_bl))
      ss_nil)
      (ss_one (s2_ret (e2_and (e2_callB (cb_isinst (T.isok _ rfl rfl)) T.b_isinstance bt_isinstance (a2_cons (e2_var 5) (a2_cons (e2_bty T.b_int bt_int) a2_nil))) (e2_and (e2_not (e2_callB (cb_isinst (T.isok _ rfl rfl)) T.b_isinstance bt_isinstance (a2_cons (e2_var 5) (a2_cons (e2_bty T.b_bool bt_bool) a2_nil)))) (e2_one (e2_cmp (p_in hr.u65) o_in (e2_var 5) (e2_tup (a2_cons e2_int (a2_cons e2_int (a2_cons e2_int (a2_cons e2_int a2_nil)))))))))))))))⟩
theorem sc_angles_fault : FnScope ["letters", "value", "ahead", "index", "angle_here"] ["letters", "value"] (defScope st_angles_fault) := ⟨rfl, rfl, rfl, by decide +kernel, rfl, by decide +kernel, by decide +kernel⟩
theorem ok_angles_fault (T : TX P w K mg cMirrors aNUMBERS aONES) : FnOK P w K mg base 2 "angles_fault" "angles_fault" st_angles_fault ["letters", "value"] F_angles_fault := by
  obtain ⟨f, fd, h1, h2, h3⟩ := T.f_angles_fault
  exact ⟨f, fd, h1, h2, h3, h3.binds (ps := ["letters", "value"]) fun _ _ _ _ _ _ us hl => match us, hl with | [_, _], _ => rfl,
    okF (k := 1) (tb := tb_angles_fault) h3 sc_angles_fault rfl rfl fun cdv A outer s H E hr =>
      (ss_cons (s2_if (c2_not (c2_val (e2_callB (cb_isinst (T.isok _ rfl rfl)) T.b_isinstance bt_isinstance (a2_cons (e2_var 1) (a2_cons (e2_bty T.b_tuple bt_tuple) a2_nil)))))
      (ss_one (s2_ret e2_non))
      ss_nil)
      (ss_cons (s2_set (i := 2) sc_angles_fault.nd rfl (Or.inl rfl) (e2_str ""))
      (ss_cons (s2_for (passes_of rfl) rfl (i2_enum T.b_enumerate (a2_cons (e2_var 1) a2_nil)) (g2_tup rfl (gs_cons (g2_name (i := 3) sc_angles_fault.nd rfl (Or.inl rfl)) (gs_cons (g2_name (i := 4) sc_angles_fault.nd rfl (Or.inl rfl)) gs_nil)))
      (ss_cons (s2_if (c2_not (c2_val (c_call (ok_is_angle T) hr (by decide) (takes_of rfl rfl rfl rfl) (a2_cons (e2_var 4) (a2_cons (e2_var 0) (a2_cons (e2_var 2) a2_nil))))))
      (ss_one (s2_ret (e2_var 3)))
      ss_nil)
      (ss_one (s2_set (i := 2) sc_angles_fault.nd rfl (Or.inl rfl) (e2_op p_add o_add (e2_ix hr.u1 (e2_var 4) e2_int) (e2_ix hr.u1 (e2_var 4) e2_int))))))
      (ss_one (s2_ret (e2_neg e2_int))))))⟩
theorem sc_parts_in : FnScope ["text", "words", "size", "angles", "word"] ["text"] (defScope st_parts_in) := ⟨rfl, rfl, rfl, by decide +kernel, rfl, by decide +kernel, by decide +kernel⟩
theorem ok_parts_in (T : TX P w K mg cMirrors aNUMBERS aONES) : FnOK P w K mg base 3 "parts_in" "parts_in" st_parts_in ["text"] F_parts_in := by
  obtain ⟨f, fd, h1, h2, h3⟩ := T.f_parts_in
  exact ⟨f, fd, h1, h2, h3, h3.binds (ps := ["text"]) fun _ _ _ _ _ _ us hl => match us, hl with | [_], _ => rfl,
    okF (k := 2) (tb := tb_parts_in) h3 sc_parts_in rfl rfl fun cdv A outer s H E hr =>
      (ss_cons (s2_set (i := 1) sc_parts_in.nd rfl (Or.inl rfl) (e2_bm PySem.F.plainAttrs_str PySem.F.slot_str_split PySem.F.type_str_split mb_split (e2_var 0) (a2_cons (e2_str " ") a2_nil)))
      (ss_cons (s2_set (i := 2) sc_parts_in.nd rfl (Or.inl rfl) (e2_callB cb_len T.b_len bt_len (a2_cons (e2_ix hr.u1 (e2_var 1) e2_int) a2_nil)))
      (ss_cons (s2_if (c2_bool (b2_or (c2_not (c2_chain p_le o_le p_le o_le e2_int (e2_var 2) (e2_gintE T.g_MOST_LETTERS))) (b2_or1 (c2_cmp (op_neD hr.u64) o_ne (e2_ix hr.u1 (e2_var 1) e2_int) (e2_slc (e2_gstrE "abcdefghijklmnopqrstuvwxyz" T.g_LETTERS) o2_none (o2_some (e2_var 2)))))))
      (ss_one (s2_ret e2_non))
      ss_nil)
      (ss_cons (s2_if (c2_not (c2_val (e2_callB (cb_all rfl) T.b_all bt_all (a2_cons (e2_lc rfl sc_parts_in.nd (i2_any (e2_slc (e2_var 1) (o2_some e2_int) o2_none)) (blkOk_by (own := [("word", 4)]) (by kernel_rfl)) (by decide) (fun _ _ _ _ _ => (g2_name (i := 4) sc_parts_in.nd rfl (Or.inl rfl))) (fun _ _ _ _ _ => ct_nil) (fun _ _ _ _ _ => (e2_and (e2_cmp (op_eqD hr.u64) o_eq (e2_callB cb_len T.b_len bt_len (a2_cons (e2_var 4) a2_nil)) e2_int) (e2_one (e2_kin T.d_NUMBERS T.m_NUMBERS (e2_ix hr.u1 (e2_var 4) e2_int)))))) a2_nil))))
      (ss_one (s2_ret e2_non))
      ss_nil)
      (ss_cons (s2_set (i := 3) sc_parts_in.nd rfl (Or.inl rfl) (e2_callT cb_tuple T.b_tuple bt_tuple (a2_cons (e2_lc rfl sc_parts_in.nd (i2_any (e2_slc (e2_var 1) (o2_some e2_int) o2_none)) (blkOk_by (own := [("word", 4)]) (by kernel_rfl)) (by decide) (fun _ _ _ _ _ => (g2_name (i := 4) sc_parts_in.nd rfl (Or.inl rfl))) (fun _ _ _ _ _ => ct_nil) (fun _ _ _ _ _ => (e2_tup (a2_cons (e2_ix hr.u1 (e2_var 4) e2_int) (a2_cons (e2_ix hr.u1 (e2_var 4) e2_int) (a2_cons (e2_kget T.d_NUMBERS T.m_NUMBERS (e2_ix hr.u1 (e2_var 4) e2_int)) a2_nil)))))) a2_nil)))
      (ss_one (s2_ret (e2_if (c2_cmp (op_eqD hr.u64) o_eq (c_call (ok_angles_fault T) hr (by decide) (takes_of rfl rfl rfl rfl) (a2_cons (e2_ix hr.u1 (e2_var 1) e2_int) (a2_cons (e2_var 3) a2_nil))) (e2_neg e2_int)) (e2_tup (a2_cons (e2_var 2) (a2_cons (e2_var 3) a2_nil))) e2_non))))))))⟩
theorem sc_is_integer : FnScope ["value"] ["value"] (defScope st_is_integer) := ⟨rfl, rfl, rfl, by decide +kernel, rfl, by decide +kernel, by decide +kernel⟩
theorem ok_is_integer (T : TX P w K mg cMirrors aNUMBERS aONES) : FnOK P w K mg base 1 "is_integer" "is_integer" st_is_integer ["value"] F_is_integer := by
  obtain ⟨f, fd, h1, h2, h3⟩ := T.f_is_integer
  exact ⟨f, fd, h1, h2, h3, h3.binds (ps := ["value"]) fun _ _ _ _ _ _ us hl => match us, hl with | [_], _ => rfl,
    okF (k := 0) (tb := tb_is_integer) h3 sc_is_integer rfl rfl fun cdv A outer s H E hr =>
      (ss_one (s2_ret (e2_and (e2_callB (cb_isinst (T.isok _ rfl rfl)) T.b_isinstance bt_isinstance (a2_cons (e2_var 0) (a2_cons (e2_bty T.b_int bt_int) a2_nil))) (e2_one (e2_not (e2_callB (cb_isinst (T.isok _ rfl rfl)) T.b_isinstance bt_isinstance (a2_cons (e2_var 0) (a2_cons (e2_bty T.b_bool bt_bool) a2_nil))))))))⟩
theorem sc_is_between : FnScope ["value", "least", "most"] ["value", "least", "most"] (defScope st_is_between) := ⟨rfl, rfl, rfl, by decide +kernel, rfl, by decide +kernel, by decide +kernel⟩
theorem ok_is_between (T : TX P w K mg cMirrors aNUMBERS aONES) : FnOK P w K mg base 2 "is_between" "is_between" st_is_between ["value", "least", "most"] F_is_between := by
  obtain ⟨f, fd, h1, h2, h3⟩ := T.f_is_between
  exact ⟨f, fd, h1, h2, h3, h3.binds (ps := ["value", "least", "most"]) fun _ _ _ _ _ _ us hl => match us, hl with | [_, _, _], _ => rfl,
    okF (k := 1) (tb := tb_is_between) h3 sc_is_between rfl rfl fun cdv A outer s H E hr =>
      (ss_one (s2_ret (e2_and (c_call (ok_is_integer T) hr (by decide) (takes_of rfl rfl rfl rfl) (a2_cons (e2_var 0) a2_nil)) (e2_one (e2_chain p_le o_le p_le o_le (e2_var 1) (e2_var 0) (e2_var 2))))))⟩
theorem sc_check_number : FnScope ["value", "least", "most"] ["value", "least", "most"] (defScope st_check_number) := ⟨rfl, rfl, rfl, by decide +kernel, rfl, by decide +kernel, by decide +kernel⟩
theorem ok_check_number (T : TX P w K mg cMirrors aNUMBERS aONES) : FnOK P w K mg base 3 "check_number" "check_number" st_check_number ["value", "least", "most"] F_check_number := by
  obtain ⟨f, fd, h1, h2, h3⟩ := T.f_check_number
  exact ⟨f, fd, h1, h2, h3, h3.binds (ps := ["value", "least", "most"]) fun _ _ _ _ _ _ us hl => match us, hl with | [_, _, _], _ => rfl,
    okF (k := 2) (tb := tb_check_number) h3 sc_check_number rfl rfl fun cdv A outer s H E hr =>
      (ss_one (s2_if (c2_not (c2_val (c_call (ok_is_between T) hr (by decide) (takes_of rfl rfl rfl rfl) (a2_cons (e2_var 0) (a2_cons (e2_var 1) (a2_cons (e2_var 2) a2_nil))))))
      (ss_one s2_never)
      ss_nil))⟩
theorem sc_Mirrors_init : FnScope ["self", "size", "angles", "fault"] ["self", "size", "angles"] (defScope st_Mirrors_init) := ⟨rfl, rfl, rfl, by decide +kernel, rfl, by decide +kernel, by decide +kernel⟩
theorem mk_Mirrors (T : TX P w K mg cMirrors aNUMBERS aONES) {ks : List Str} {n : Nat} {perm : List Nat} (hb : BK "__init__" "Mirrors.__init__" st_Mirrors_init ["self", "size", "angles"] ks (n + 1) perm) : MkD P w K mg base 4 "Mirrors" F_Mirrors_init ["self", "size", "angles"] ks n perm := by
  obtain ⟨f, fd, h1, h3⟩ := T.f_Mirrors_init
  exact ⟨cMirrors, f, fd, T.m_Mirrors, h1, okF (k := 3) (tb := tb_Mirrors_init) h3 sc_Mirrors_init rfl rfl fun cdv A outer s H E hr =>
      (ss_cons (s2_expr (c_call (ok_check_number T) hr (by decide) (takes_of rfl rfl rfl rfl) (a2_cons (e2_var 1) (a2_cons e2_int (a2_cons (e2_gintE T.g_MOST_LETTERS) a2_nil)))))
      (ss_cons (s2_set (i := 3) sc_Mirrors_init.nd rfl (Or.inl rfl) (c_call (ok_angles_fault T) hr (by decide) (takes_of rfl rfl rfl rfl) (a2_cons (e2_slc (e2_gstrE "abcdefghijklmnopqrstuvwxyz" T.g_LETTERS) o2_none (o2_some (e2_var 1))) (a2_cons (e2_var 2) a2_nil))))
      (ss_cons (s2_if (c2_cmp (op_neD hr.u64) o_ne (e2_var 3) (e2_neg e2_int))
      (ss_one s2_never)
      ss_nil)
      (ss_cons (s2_fld (fldOk_of (fl_size T)) (e2_var 0) (e2_var 1))
      (ss_one (s2_fld (fldOk_of (fl_angles T)) (e2_var 0) (e2_var 2))))))),
    Fun.bindK h3 hb⟩
theorem sc_Mirrors_read : FnScope ["cls", "text", "found"] ["cls", "text"] (defScope st_Mirrors_read) := ⟨rfl, rfl, rfl, by decide +kernel, rfl, by decide +kernel, by decide +kernel⟩
theorem cm_Mirrors_read (T : TX P w K mg cMirrors aNUMBERS aONES) : CmOk P w K mg base 6 "Mirrors" "read" F_Mirrors_read ["cls", "text"] := by
  obtain ⟨mc, p, f, fd, h1, h2, h3⟩ := T.f_Mirrors_read
  exact ⟨cMirrors, mc, p, f, fd, T.m_Mirrors, h1, h2, okF (k := 5) (tb := tb_Mirrors_read) h3 sc_Mirrors_read rfl rfl fun cdv A outer s H E hr =>
      (ss_cons (s2_set (i := 2) sc_Mirrors_read.nd rfl (Or.inl rfl) (e2_if (c2_val (e2_callB (cb_isinst (T.isok _ rfl rfl)) T.b_isinstance bt_isinstance (a2_cons (e2_var 1) (a2_cons (e2_bty T.b_str bt_str) a2_nil)))) (c_call (ok_parts_in T) hr (by decide) (takes_of rfl rfl rfl rfl) (a2_cons (e2_var 1) a2_nil)) e2_non))
      (ss_cons (s2_if (c2_cmp p_is o_is (e2_var 2) e2_non)
      (ss_one s2_never)
      ss_nil)
      (ss_one (s2_ret (c_make (mk_Mirrors T bk_Mirrors_init_3) rfl (hr.mono (by decide)) (takes_of rfl rfl rfl rfl) (e2_var 0) (a2_cons (e2_ix hr.u1 (e2_var 2) e2_int) (a2_cons (e2_ix hr.u1 (e2_var 2) e2_int) a2_nil)) k2_nil))))),
    h3.binds (ps := ["cls", "text"]) fun _ _ _ _ _ _ us hl => match us, hl with | [_, _], _ => rfl⟩
theorem sc_check_mirrors : FnScope ["value"] ["value"] (defScope st_check_mirrors) := ⟨rfl, rfl, rfl, by decide +kernel, rfl, by decide +kernel, by decide +kernel⟩
theorem ok_check_mirrors (T : TX P w K mg cMirrors aNUMBERS aONES) : FnOK P w K mg base 1 "check_mirrors" "check_mirrors" st_check_mirrors ["value"] F_check_mirrors := by
  obtain ⟨f, fd, h1, h2, h3⟩ := T.f_check_mirrors
  exact ⟨f, fd, h1, h2, h3, h3.binds (ps := ["value"]) fun _ _ _ _ _ _ us hl => match us, hl with | [_], _ => rfl,
    okF (k := 0) (tb := tb_check_mirrors) h3 sc_check_mirrors rfl rfl fun cdv A outer s H E hr =>
      (ss_one (s2_if (c2_not (c2_val (e2_callB (cb_isinst (T.isok _ rfl rfl)) T.b_isinstance bt_isinstance (a2_cons (e2_var 0) (a2_cons (e2_gloE "Mirrors" ⟨_, T.m_Mirrors⟩) a2_nil)))))
      (ss_one s2_never)
      ss_nil))⟩
theorem sc_Mirrors_letters : FnScope ["self"] ["self"] (defScope st_Mirrors_letters) := ⟨rfl, rfl, rfl, by decide +kernel, rfl, by decide +kernel, by decide +kernel⟩
theorem pr_Mirrors_letters (T : TX P w K mg cMirrors aNUMBERS aONES) : ∃ p g fd, PropOf K cMirrors (nm "letters") p g ∧ FD P w K mg base 1 g fd ["self"] F_Mirrors_letters ∧ Binds K fd ["self"] [] := by
  obtain ⟨p, f, fd, h1, h3⟩ := T.f_Mirrors_letters
  exact ⟨p, f, fd, h1, okF (k := 0) (tb := tb_Mirrors_letters) h3 sc_Mirrors_letters rfl rfl fun cdv A outer s H E hr =>
      (ss_one (s2_ret (e2_slc (e2_gstrE "abcdefghijklmnopqrstuvwxyz" T.g_LETTERS) o2_none (o2_some (e2_fld (fldOk_of (fl_size T)) (e2_var 0)))))),
    h3.binds (ps := ["self"]) fun _ _ _ _ _ _ us hl => match us, hl with | [_], _ => rfl⟩
theorem sc_check_lot : FnScope ["mirrors", "value", "letter", "one", "other"] ["mirrors", "value"] (defScope st_check_lot) := ⟨rfl, rfl, rfl, by decide +kernel, rfl, by decide +kernel, by decide +kernel⟩
theorem ok_check_lot (T : TX P w K mg cMirrors aNUMBERS aONES) : FnOK P w K mg base 3 "check_lot" "check_lot" st_check_lot ["mirrors", "value"] F_check_lot := by
  obtain ⟨f, fd, h1, h2, h3⟩ := T.f_check_lot
  exact ⟨f, fd, h1, h2, h3, h3.binds (ps := ["mirrors", "value"]) fun _ _ _ _ _ _ us hl => match us, hl with | [_, _], _ => rfl,
    okF (k := 2) (tb := tb_check_lot) h3 sc_check_lot rfl rfl fun cdv A outer s H E hr =>
      (ss_cons (s2_if (c2_bool (b2_or (c2_not (c2_val (e2_callB (cb_isinst (T.isok _ rfl rfl)) T.b_isinstance bt_isinstance (a2_cons (e2_var 1) (a2_cons (e2_bty T.b_str bt_str) a2_nil))))) (b2_or1 (c2_not (c2_val (e2_callB (cb_all rfl) T.b_all bt_all (a2_cons (e2_lc rfl sc_check_lot.nd (i2_any (e2_var 1)) (blkOk_by (own := [("letter", 2)]) (by kernel_rfl)) (by decide) (fun _ _ _ _ _ => (g2_name (i := 2) sc_check_lot.nd rfl (Or.inl rfl))) (fun _ _ _ _ _ => ct_nil) (fun _ _ _ _ _ => (e2_cmp (p_in hr.u65) o_in (e2_var 2) (e2_prop (k := 1) (tblP_one T.co_Mirrors (pr_Mirrors_letters T)) (hr.mono (by decide)) (e2_var 0))))) a2_nil)))))))
      (ss_one s2_never)
      ss_nil)
      (ss_one (s2_if (c2_not (c2_val (e2_callB (cb_all rfl) T.b_all bt_all (a2_cons (e2_lc rfl sc_check_lot.nd (i2_zip T.b_zip (a2_cons (e2_var 1) (a2_cons (e2_slc (e2_var 1) (o2_some e2_int) o2_none) a2_nil))) (blkOk_by (own := [("one", 3), ("other", 4)]) (by kernel_rfl)) (by decide) (fun _ _ _ _ _ => (g2_tup rfl (gs_cons (g2_name (i := 3) sc_check_lot.nd rfl (Or.inl rfl)) (gs_cons (g2_name (i := 4) sc_check_lot.nd rfl (Or.inl rfl)) gs_nil)))) (fun _ _ _ _ _ => ct_nil) (fun _ _ _ _ _ => (e2_cmp p_lt o_lt (e2_var 3) (e2_var 4)))) a2_nil))))
      (ss_one s2_never)
      ss_nil)))⟩
theorem sc_is_word : FnScope ["mirrors", "value", "letter"] ["mirrors", "value"] (defScope st_is_word) := ⟨rfl, rfl, rfl, by decide +kernel, rfl, by decide +kernel, by decide +kernel⟩
theorem ok_is_word (T : TX P w K mg cMirrors aNUMBERS aONES) : FnOK P w K mg base 3 "is_word" "is_word" st_is_word ["mirrors", "value"] F_is_word := by
  obtain ⟨f, fd, h1, h2, h3⟩ := T.f_is_word
  exact ⟨f, fd, h1, h2, h3, h3.binds (ps := ["mirrors", "value"]) fun _ _ _ _ _ _ us hl => match us, hl with | [_, _], _ => rfl,
    okF (k := 2) (tb := tb_is_word) h3 sc_is_word rfl rfl fun cdv A outer s H E hr =>
      (ss_cons (s2_if (c2_bool (b2_or (c2_not (c2_val (e2_callB (cb_isinst (T.isok _ rfl rfl)) T.b_isinstance bt_isinstance (a2_cons (e2_var 1) (a2_cons (e2_bty T.b_str bt_str) a2_nil))))) (b2_or1 (c2_cmp p_gt o_gt (e2_callB cb_len T.b_len bt_len (a2_cons (e2_var 1) a2_nil)) (e2_gintE T.g_MOST_WORD)))))
      (ss_one (s2_ret e2_bl))
      ss_nil)
      (ss_one (s2_ret (e2_callB (cb_all rfl) T.b_all bt_all (a2_cons (e2_lc rfl sc_is_word.nd (i2_any (e2_var 1)) (blkOk_by (own := [("letter", 2)]) (by kernel_rfl)) (by decide) (fun _ _ _ _ _ => (g2_name (i := 2) sc_is_word.nd rfl (Or.inl rfl))) (fun _ _ _ _ _ => ct_nil) (fun _ _ _ _ _ => (e2_cmp (p_in hr.u65) o_in (e2_var 2) (e2_prop (k := 1) (tblP_one T.co_Mirrors (pr_Mirrors_letters T)) (hr.mono (by decide)) (e2_var 0))))) a2_nil)))))⟩
theorem sc_check_word : FnScope ["mirrors", "value"] ["mirrors", "value"] (defScope st_check_word) := ⟨rfl, rfl, rfl, by decide +kernel, rfl, by decide +kernel, by decide +kernel⟩
theorem ok_check_word (T : TX P w K mg cMirrors aNUMBERS aONES) : FnOK P w K mg base 4 "check_word" "check_word" st_check_word ["mirrors", "value"] F_check_word := by
  obtain ⟨f, fd, h1, h2, h3⟩ := T.f_check_word
  exact ⟨f, fd, h1, h2, h3, h3.binds (ps := ["mirrors", "value"]) fun _ _ _ _ _ _ us hl => match us, hl with | [_, _], _ => rfl,
    okF (k := 3) (tb := tb_check_word) h3 sc_check_word rfl rfl fun cdv A outer s H E hr =>
      (ss_one (s2_if (c2_not (c2_val (c_call (ok_is_word T) hr (by decide) (takes_of rfl rfl rfl rfl) (a2_cons (e2_var 0) (a2_cons (e2_var 1) a2_nil)))))
      (ss_one s2_never)
      ss_nil))⟩
theorem sc_check_asked : FnScope ["mirrors", "word"] ["mirrors", "word"] (defScope st_check_asked) := ⟨rfl, rfl, rfl, by decide +kernel, rfl, by decide +kernel, by decide +kernel⟩
theorem ok_check_asked (T : TX P w K mg cMirrors aNUMBERS aONES) : FnOK P w K mg base 5 "check_asked" "check_asked" st_check_asked ["mirrors", "word"] F_check_asked := by
  obtain ⟨f, fd, h1, h2, h3⟩ := T.f_check_asked
  exact ⟨f, fd, h1, h2, h3, h3.binds (ps := ["mirrors", "word"]) fun _ _ _ _ _ _ us hl => match us, hl with | [_, _], _ => rfl,
    okF (k := 4) (tb := tb_check_asked) h3 sc_check_asked rfl rfl fun cdv A outer s H E hr =>
      (ss_cons (s2_expr (c_call (ok_check_mirrors T) hr (by decide) (takes_of rfl rfl rfl rfl) (a2_cons (e2_var 0) a2_nil)))
      (ss_one (s2_expr (c_call (ok_check_word T) hr (by decide) (takes_of rfl rfl rfl rfl) (a2_cons (e2_var 0) (a2_cons (e2_var 1) a2_nil))))))⟩
theorem sc_number_of : FnScope ["mirrors", "one", "other", "low", "high", "number"] ["mirrors", "one", "other"] (defScope st_number_of) := ⟨rfl, rfl, rfl, by decide +kernel, rfl, by decide +kernel, by decide +kernel⟩
theorem ok_number_of (T : TX P w K mg cMirrors aNUMBERS aONES) : FnOK P w K mg base 1 "number_of" "number_of" st_number_of ["mirrors", "one", "other"] F_number_of := by
  obtain ⟨f, fd, h1, h2, h3⟩ := T.f_number_of
  exact ⟨f, fd, h1, h2, h3, h3.binds (ps := ["mirrors", "one", "other"]) fun _ _ _ _ _ _ us hl => match us, hl with | [_, _, _], _ => rfl,
    okF (k := 0) (tb := tb_number_of) h3 sc_number_of rfl rfl fun cdv A outer s H E hr =>
      (ss_cons (s2_if (c2_cmp (op_eqD hr.u64) o_eq (e2_var 1) (e2_var 2))
      (ss_one (s2_ret e2_int))
      ss_nil)
      (ss_cons (s2_for (passes_of rfl) rfl (i2_any (e2_fld (fldOk_of (fl_angles T)) (e2_var 0))) (g2_tup rfl (gs_cons (g2_name (i := 3) sc_number_of.nd rfl (Or.inl rfl)) (gs_cons (g2_name (i := 4) sc_number_of.nd rfl (Or.inl rfl)) (gs_cons (g2_name (i := 5) sc_number_of.nd rfl (Or.inl rfl)) gs_nil))))
      (ss_one (s2_if (c2_cmp (op_eqD hr.u64) o_eq (e2_callB (cb_sorted2 hr rfl) T.b_sorted bt_sorted (a2_cons (e2_lst (a2_cons (e2_var 1) (a2_cons (e2_var 2) a2_nil))) a2_nil)) (e2_lst (a2_cons (e2_var 3) (a2_cons (e2_var 4) a2_nil))))
      (ss_one (s2_ret (e2_var 5)))
      ss_nil)))
      (ss_one (s2_ret (e2_gintE T.g_PLAIN)))))⟩
theorem sc_weight : FnScope ["mirrors", "letter", "mate"] ["mirrors", "letter", "mate"] (defScope st_weight) := ⟨rfl, rfl, rfl, by decide +kernel, rfl, by decide +kernel, by decide +kernel⟩
theorem ok_weight (T : TX P w K mg cMirrors aNUMBERS aONES) : FnOK P w K mg base 2 "weight" "weight" st_weight ["mirrors", "letter", "mate"] F_weight := by
  obtain ⟨f, fd, h1, h2, h3⟩ := T.f_weight
  exact ⟨f, fd, h1, h2, h3, h3.binds (ps := ["mirrors", "letter", "mate"]) fun _ _ _ _ _ _ us hl => match us, hl with | [_, _, _], _ => rfl,
    okF (k := 1) (tb := tb_weight) h3 sc_weight rfl rfl fun cdv A outer s H E hr =>
      (ss_one (s2_ret (e2_ix hr.u1 (e2_kget T.d_ONES T.m_ONES (c_call (ok_number_of T) hr (by decide) (takes_of rfl rfl rfl rfl) (a2_cons (e2_var 0) (a2_cons (e2_var 1) (a2_cons (e2_var 2) a2_nil))))) (e2_if (c2_cmp p_lt o_lt (e2_var 1) (e2_var 2)) e2_int e2_int))))⟩
theorem sc_weights_of : FnScope ["mirrors", "letters", "found", "letter", "mate"] ["mirrors"] (defScope st_weights_of) := ⟨rfl, rfl, rfl, by decide +kernel, rfl, by decide +kernel, by decide +kernel⟩
theorem ok_weights_of (T : TX P w K mg cMirrors aNUMBERS aONES) : FnOK P w K mg base 3 "weights_of" "weights_of" st_weights_of ["mirrors"] F_weights_of := by
  obtain ⟨f, fd, h1, h2, h3⟩ := T.f_weights_of
  exact ⟨f, fd, h1, h2, h3, h3.binds (ps := ["mirrors"]) fun _ _ _ _ _ _ us hl => match us, hl with | [_], _ => rfl,
    okF (k := 2) (tb := tb_weights_of) h3 sc_weights_of rfl rfl fun cdv A outer s H E hr =>
      (ss_cons (s2_par (i := 1) (j := 2) rfl sc_weights_of.nd rfl rfl (by decide) rfl rfl (a2_cons (e2_prop (k := 1) (tblP_one T.co_Mirrors (pr_Mirrors_letters T)) (hr.mono (by decide)) (e2_var 0)) (a2_cons (e2_lstM a2_nil) a2_nil)) rfl)
      (ss_cons (s2_for (passes_of rfl) rfl (i2_any (e2_var 1)) (g2_name (i := 3) sc_weights_of.nd rfl (Or.inr rfl))
      (ss_one (s2_expr (e2_bm PySem.F.plainAttrs_list PySem.F.slot_list_append PySem.F.type_list_append mb_append (e2_var 2) (a2_cons (e2_lc rfl sc_weights_of.nd (i2_any (e2_var 1)) (blkOk_by (own := [("mate", 4)]) (by kernel_rfl)) (by decide) (fun _ _ _ _ _ => (g2_name (i := 4) sc_weights_of.nd rfl (Or.inl rfl))) (fun _ _ _ _ _ => ct_nil) (fun _ _ _ _ _ => (e2_if (c2_cmp (op_eqD hr.u64) o_eq (e2_var 3) (e2_var 4)) e2_int (c_call (ok_weight T) hr (by decide) L2.takes0 (a2_cons (e2_var 0) (a2_cons (e2_var 3) (a2_cons (e2_var 4) a2_nil))))))) a2_nil)))))
      (ss_one (s2_ret (e2_frz (e2_var 2))))))⟩
theorem sc_sent_by : FnScope ["weights", "place", "row", "total", "one", "other"] ["weights", "place", "row"] (defScope st_sent_by) := ⟨rfl, rfl, rfl, by decide +kernel, rfl, by decide +kernel, by decide +kernel⟩
theorem ok_sent_by (T : TX P w K mg cMirrors aNUMBERS aONES) : FnOK P w K mg base 1 "sent_by" "sent_by" st_sent_by ["weights", "place", "row"] F_sent_by := by
  obtain ⟨f, fd, h1, h2, h3⟩ := T.f_sent_by
  exact ⟨f, fd, h1, h2, h3, h3.binds (ps := ["weights", "place", "row"]) fun _ _ _ _ _ _ us hl => match us, hl with | [_, _, _], _ => rfl,
    okF (k := 0) (tb := tb_sent_by) h3 sc_sent_by rfl rfl fun cdv A outer s H E hr =>
      (ss_cons (s2_set (i := 3) sc_sent_by.nd rfl (Or.inl rfl) (e2_callB (cb_sum rfl) T.b_sum bt_sum (a2_cons (e2_lc rfl sc_sent_by.nd (i2_zip T.b_zip (a2_cons (e2_ix hr.u1 (e2_var 0) (e2_var 1)) (a2_cons (e2_var 2) a2_nil))) (blkOk_by (own := [("one", 4), ("other", 5)]) (by kernel_rfl)) (by decide) (fun _ _ _ _ _ => (g2_tup rfl (gs_cons (g2_name (i := 4) sc_sent_by.nd rfl (Or.inl rfl)) (gs_cons (g2_name (i := 5) sc_sent_by.nd rfl (Or.inl rfl)) gs_nil)))) (fun _ _ _ _ _ => ct_nil) (fun _ _ _ _ _ => (e2_op p_mul o_mul (e2_var 4) (e2_var 5)))) a2_nil)))
      (ss_one (s2_ret (e2_tup (a2_star (e2_slc (e2_var 2) o2_none (o2_some (e2_var 1))) (a2_cons (e2_op op_sub o_sub (e2_var 3) (e2_ix hr.u1 (e2_var 2) (e2_var 1))) (a2_star (e2_slc (e2_var 2) (o2_some (e2_op p_add o_add (e2_var 1) e2_int)) o2_none) a2_nil)))))))⟩
theorem sc_sent : FnScope ["mirrors", "word", "row", "weights", "letter"] ["mirrors", "word", "row"] (defScope st_sent) := ⟨rfl, rfl, rfl, by decide +kernel, rfl, by decide +kernel, by decide +kernel⟩
theorem ok_sent (T : TX P w K mg cMirrors aNUMBERS aONES) : FnOK P w K mg base 4 "sent" "sent" st_sent ["mirrors", "word", "row"] F_sent := by
  obtain ⟨f, fd, h1, h2, h3⟩ := T.f_sent
  exact ⟨f, fd, h1, h2, h3, h3.binds (ps := ["mirrors", "word", "row"]) fun _ _ _ _ _ _ us hl => match us, hl with | [_, _, _], _ => rfl,
    okF (k := 3) (tb := tb_sent) h3 sc_sent rfl rfl fun cdv A outer s H E hr =>
      (ss_cons (s2_set (i := 3) sc_sent.nd rfl (Or.inl rfl) (c_call (ok_weights_of T) hr (by decide) (takes_of rfl rfl rfl rfl) (a2_cons (e2_var 0) a2_nil)))
      (ss_cons (s2_for (passes_of rfl) rfl (i2_any (e2_rev (e2_var 1))) (g2_name (i := 4) sc_sent.nd rfl (Or.inl rfl))
      (ss_one (s2_set (i := 2) sc_sent.nd rfl (Or.inl rfl) (c_call (ok_sent_by T) hr (by decide) (takes_of rfl rfl rfl rfl) (a2_cons (e2_var 3) (a2_cons (e2_bm PySem.F.plainAttrs_str PySem.F.slot_str_index PySem.F.type_str_index mb_sindex (e2_prop (k := 1) (tblP_one T.co_Mirrors (pr_Mirrors_letters T)) (hr.mono (by decide)) (e2_var 0)) (a2_cons (e2_var 4) a2_nil)) (a2_cons (e2_var 2) a2_nil)))))))
      (ss_one (s2_ret (e2_var 2)))))⟩
theorem sc_single : FnScope ["mirrors", "place", "spot"] ["mirrors", "place"] (defScope st_single) := ⟨rfl, rfl, rfl, by decide +kernel, rfl, by decide +kernel, by decide +kernel⟩
theorem ok_single (T : TX P w K mg cMirrors aNUMBERS aONES) : FnOK P w K mg base 1 "single" "single" st_single ["mirrors", "place"] F_single := by
  obtain ⟨f, fd, h1, h2, h3⟩ := T.f_single
  exact ⟨f, fd, h1, h2, h3, h3.binds (ps := ["mirrors", "place"]) fun _ _ _ _ _ _ us hl => match us, hl with | [_, _], _ => rfl,
    okF (k := 0) (tb := tb_single) h3 sc_single rfl rfl fun cdv A outer s H E hr =>
      (ss_one (s2_ret (e2_callT cb_tuple T.b_tuple bt_tuple (a2_cons (e2_lc rfl sc_single.nd (i2_range1 T.b_range (a2_cons (e2_fld (fldOk_of (fl_size T)) (e2_var 0)) a2_nil)) (blkOk_by (own := [("spot", 2)]) (by kernel_rfl)) (by decide) (fun _ _ _ _ _ => (g2_name (i := 2) sc_single.nd rfl (Or.inl rfl))) (fun _ _ _ _ _ => ct_nil) (fun _ _ _ _ _ => (e2_if (c2_cmp (op_eqD hr.u64) o_eq (e2_var 2) (e2_var 1)) e2_int e2_int))) a2_nil))))⟩
theorem sc_all_sent : FnScope ["mirrors", "word", "place"] ["mirrors", "word"] (defScope st_all_sent) := ⟨rfl, rfl, rfl, by decide +kernel, rfl, by decide +kernel, by decide +kernel⟩
theorem ok_all_sent (T : TX P w K mg cMirrors aNUMBERS aONES) : FnOK P w K mg base 5 "all_sent" "all_sent" st_all_sent ["mirrors", "word"] F_all_sent := by
  obtain ⟨f, fd, h1, h2, h3⟩ := T.f_all_sent
  exact ⟨f, fd, h1, h2, h3, h3.binds (ps := ["mirrors", "word"]) fun _ _ _ _ _ _ us hl => match us, hl with | [_, _], _ => rfl,
    okF (k := 4) (tb := tb_all_sent) h3 sc_all_sent rfl rfl fun cdv A outer s H E hr =>
      (ss_one (s2_ret (e2_callT cb_tuple T.b_tuple bt_tuple (a2_cons (e2_lc rfl sc_all_sent.nd (i2_range1 T.b_range (a2_cons (e2_fld (fldOk_of (fl_size T)) (e2_var 0)) a2_nil)) (blkOk_by (own := [("place", 2)]) (by kernel_rfl)) (by decide) (fun _ _ _ _ _ => (g2_name (i := 2) sc_all_sent.nd rfl (Or.inl rfl))) (fun _ _ _ _ _ => ct_nil) (fun _ _ _ _ _ => (c_call (ok_sent T) hr (by decide) L2.takes0 (a2_cons (e2_var 0) (a2_cons (e2_var 1) (a2_cons (c_call (ok_single T) hr (by decide) L2.takes0 (a2_cons (e2_var 0) (a2_cons (e2_var 2) a2_nil))) a2_nil)))))) a2_nil))))⟩
theorem sc_is_below : FnScope ["row"] ["row"] (defScope st_is_below) := ⟨rfl, rfl, rfl, by decide +kernel, rfl, by decide +kernel, by decide +kernel⟩
theorem ok_is_below (T : TX P w K mg cMirrors aNUMBERS aONES) : FnOK P w K mg base 1 "is_below" "is_below" st_is_below ["row"] F_is_below := by
  obtain ⟨f, fd, h1, h2, h3⟩ := T.f_is_below
  exact ⟨f, fd, h1, h2, h3, h3.binds (ps := ["row"]) fun _ _ _ _ _ _ us hl => match us, hl with | [_], _ => rfl,
    okF (k := 0) (tb := tb_is_below) h3 sc_is_below rfl rfl fun cdv A outer s H E hr =>
      (ss_one (s2_ret (e2_cmp p_lt o_lt (e2_callB (cb_min hr rfl) T.b_min bt_min (a2_cons (e2_var 0) a2_nil)) e2_int)))⟩
theorem sc_falls : FnScope ["rows", "place", "row"] ["rows"] (defScope st_falls) := ⟨rfl, rfl, rfl, by decide +kernel, rfl, by decide +kernel, by decide +kernel⟩
theorem ok_falls (T : TX P w K mg cMirrors aNUMBERS aONES) : FnOK P w K mg base 2 "falls" "falls" st_falls ["rows"] F_falls := by
  obtain ⟨f, fd, h1, h2, h3⟩ := T.f_falls
  exact ⟨f, fd, h1, h2, h3, h3.binds (ps := ["rows"]) fun _ _ _ _ _ _ us hl => match us, hl with | [_], _ => rfl,
    okF (k := 1) (tb := tb_falls) h3 sc_falls rfl rfl fun cdv A outer s H E hr =>
      (ss_one (s2_ret (e2_lc rfl sc_falls.nd (i2_enum T.b_enumerate (a2_cons (e2_var 0) a2_nil)) (blkOk_by (own := [("place", 1), ("row", 2)]) (by kernel_rfl)) (by decide) (fun _ _ _ _ _ => (g2_tup rfl (gs_cons (g2_name (i := 1) sc_falls.nd rfl (Or.inl rfl)) (gs_cons (g2_name (i := 2) sc_falls.nd rfl (Or.inl rfl)) gs_nil)))) (fun _ _ _ _ _ => (ct_one (c2_val (c_call (ok_is_below T) hr (by decide) L2.takes0 (a2_cons (e2_var 2) a2_nil))))) (fun _ _ _ _ _ => (e2_var 1)))))⟩
theorem sc_first_fall : FnScope ["mirrors", "rows", "lot", "found", "place"] ["mirrors", "rows", "lot"] (defScope st_first_fall) := ⟨rfl, rfl, rfl, by decide +kernel, rfl, by decide +kernel, by decide +kernel⟩
theorem ok_first_fall (T : TX P w K mg cMirrors aNUMBERS aONES) : FnOK P w K mg base 3 "first_fall" "first_fall" st_first_fall ["mirrors", "rows", "lot"] F_first_fall := by
  obtain ⟨f, fd, h1, h2, h3⟩ := T.f_first_fall
  exact ⟨f, fd, h1, h2, h3, h3.binds (ps := ["mirrors", "rows", "lot"]) fun _ _ _ _ _ _ us hl => match us, hl with | [_, _, _], _ => rfl,
    okF (k := 2) (tb := tb_first_fall) h3 sc_first_fall rfl rfl fun cdv A outer s H E hr =>
      (ss_cons (s2_setLc (i := 3) rfl sc_first_fall.nd rfl rfl rfl (i2_any (c_call (ok_falls T) hr (by decide) (takes_of rfl rfl rfl rfl) (a2_cons (e2_var 1) a2_nil))) (blkOk_by (own := [("place", 4)]) (by kernel_rfl)) (by decide) (fun _ _ _ _ _ => (g2_name (i := 4) sc_first_fall.nd rfl (Or.inl rfl))) (fun _ _ _ _ _ => (ct_one (c2_cmp (p_in hr.u65) o_in (e2_ix hr.u1 (e2_prop (k := 1) (tblP_one T.co_Mirrors (pr_Mirrors_letters T)) (hr.mono (by decide)) (e2_var 0)) (e2_var 4)) (e2_var 2)))) (fun _ _ _ _ _ => (e2_var 4)))
      (ss_one (s2_ret (e2_if (c2_cmp (op_neD hr.u64) o_ne (e2_var 3) (e2_lst a2_nil)) (e2_ix hr.u1 (e2_var 3) e2_int) e2_non))))⟩
theorem sc_times_letter : FnScope ["weights", "rows", "place", "lead", "found", "spot", "row", "much", "one", "other"] ["weights", "rows", "place"] (defScope st_times_letter) := ⟨rfl, rfl, rfl, by decide +kernel, rfl, by decide +kernel, by decide +kernel⟩
theorem ok_times_letter (T : TX P w K mg cMirrors aNUMBERS aONES) : FnOK P w K mg base 1 "times_letter" "times_letter" st_times_letter ["weights", "rows", "place"] F_times_letter := by
  obtain ⟨f, fd, h1, h2, h3⟩ := T.f_times_letter
  exact ⟨f, fd, h1, h2, h3, h3.binds (ps := ["weights", "rows", "place"]) fun _ _ _ _ _ _ us hl => match us, hl with | [_, _, _], _ => rfl,
    okF (k := 0) (tb := tb_times_letter) h3 sc_times_letter rfl rfl fun cdv A outer s H E hr =>
      (ss_cons (s2_set (i := 3) sc_times_letter.nd rfl (Or.inl rfl) (e2_ix hr.u1 (e2_var 1) (e2_var 2)))
      (ss_cons (s2_set (i := 4) sc_times_letter.nd rfl (Or.inl rfl) (e2_lstM a2_nil))
      (ss_cons (s2_for (passes_of rfl) rfl (i2_enum T.b_enumerate (a2_cons (e2_var 1) a2_nil)) (g2_tup rfl (gs_cons (g2_name (i := 5) sc_times_letter.nd rfl (Or.inl rfl)) (gs_cons (g2_name (i := 6) sc_times_letter.nd rfl (Or.inl rfl)) gs_nil)))
      (ss_cons (s2_set (i := 7) sc_times_letter.nd rfl (Or.inr rfl) (e2_if (c2_cmp (op_eqD hr.u64) o_eq (e2_var 5) (e2_var 2)) (e2_neg e2_int) (e2_ix hr.u1 (e2_ix hr.u1 (e2_var 0) (e2_var 2)) (e2_var 5))))
      (ss_one (s2_expr (e2_bm PySem.F.plainAttrs_list PySem.F.slot_list_append PySem.F.type_list_append mb_append (e2_var 4) (a2_cons (e2_callT cb_tuple T.b_tuple bt_tuple (a2_cons (e2_lc rfl sc_times_letter.nd (i2_zip T.b_zip (a2_cons (e2_var 6) (a2_cons (e2_var 3) a2_nil))) (blkOk_by (own := [("one", 8), ("other", 9)]) (by kernel_rfl)) (by decide) (fun _ _ _ _ _ => (g2_tup rfl (gs_cons (g2_name (i := 8) sc_times_letter.nd rfl (Or.inl rfl)) (gs_cons (g2_name (i := 9) sc_times_letter.nd rfl (Or.inl rfl)) gs_nil)))) (fun _ _ _ _ _ => ct_nil) (fun _ _ _ _ _ => (e2_op p_add o_add (e2_var 8) (e2_op p_mul o_mul (e2_var 7) (e2_var 9))))) a2_nil)) a2_nil))))))
      (ss_one (s2_ret (e2_callT cb_tuple T.b_tuple bt_tuple (a2_cons (e2_var 4) a2_nil)))))))⟩
theorem sc_words_from : FnScope ["mirrors", "rows", "weights", "word", "places"] ["mirrors", "rows"] (defScope st_words_from) := ⟨rfl, rfl, rfl, by decide +kernel, rfl, by decide +kernel, by decide +kernel⟩
theorem ok_words_from (T : TX P w K mg cMirrors aNUMBERS aONES) : FnOK P w K mg base 4 "words_from" "words_from" st_words_from ["mirrors", "rows"] F_words_from := by
  obtain ⟨f, fd, h1, h2, h3⟩ := T.f_words_from
  exact ⟨f, fd, h1, h2, h3, h3.binds (ps := ["mirrors", "rows"]) fun _ _ _ _ _ _ us hl => match us, hl with | [_, _], _ => rfl,
    okF (k := 3) (tb := tb_words_from) h3 sc_words_from rfl rfl fun cdv A outer s H E hr =>
      (ss_cons (s2_par (i := 2) (j := 3) rfl sc_words_from.nd rfl rfl (by decide) rfl rfl (a2_cons (c_call (ok_weights_of T) hr (by decide) (takes_of rfl rfl rfl rfl) (a2_cons (e2_var 0) a2_nil)) (a2_cons (e2_str "") a2_nil)) rfl)
      (ss_cons (s2_set (i := 4) sc_words_from.nd rfl (Or.inl rfl) (c_call (ok_falls T) hr (by decide) (takes_of rfl rfl rfl rfl) (a2_cons (e2_var 1) a2_nil)))
      (ss_cons (s2_while fuel_words_from (passes_of rfl) (c2_cmp (op_neD hr.u64) o_ne (e2_var 4) (e2_lst a2_nil))
      (ss_cons (s2_set (i := 3) sc_words_from.nd rfl (Or.inl rfl) (e2_op p_add o_add (e2_var 3) (e2_ix hr.u1 (e2_prop (k := 1) (tblP_one T.co_Mirrors (pr_Mirrors_letters T)) (hr.mono (by decide)) (e2_var 0)) (e2_ix hr.u1 (e2_var 4) e2_int))))
      (ss_cons (s2_set (i := 1) sc_words_from.nd rfl (Or.inl rfl) (c_call (ok_times_letter T) hr (by decide) (takes_of rfl rfl rfl rfl) (a2_cons (e2_var 2) (a2_cons (e2_var 1) (a2_cons (e2_ix hr.u1 (e2_var 4) e2_int) a2_nil)))))
      (ss_one (s2_set (i := 4) sc_words_from.nd rfl (Or.inl rfl) (c_call (ok_falls T) hr (by decide) (takes_of rfl rfl rfl rfl) (a2_cons (e2_var 1) a2_nil)))))))
      (ss_one (s2_ret (e2_var 3))))))⟩
theorem sc_first_of : FnScope ["mirrors", "word"] ["mirrors", "word"] (defScope st_first_of) := ⟨rfl, rfl, rfl, by decide +kernel, rfl, by decide +kernel, by decide +kernel⟩
theorem ok_first_of (T : TX P w K mg cMirrors aNUMBERS aONES) : FnOK P w K mg base 6 "first_of" "first_of" st_first_of ["mirrors", "word"] F_first_of := by
  obtain ⟨f, fd, h1, h2, h3⟩ := T.f_first_of
  exact ⟨f, fd, h1, h2, h3, h3.binds (ps := ["mirrors", "word"]) fun _ _ _ _ _ _ us hl => match us, hl with | [_, _], _ => rfl,
    okF (k := 5) (tb := tb_first_of) h3 sc_first_of rfl rfl fun cdv A outer s H E hr =>
      (ss_one (s2_ret (c_call (ok_words_from T) hr (by decide) (takes_of rfl rfl rfl rfl) (a2_cons (e2_var 0) (a2_cons (c_call (ok_all_sent T) hr (by decide) (takes_of rfl rfl rfl rfl) (a2_cons (e2_var 0) (a2_cons (e2_rev (e2_var 1)) a2_nil))) a2_nil)))))⟩
theorem sc_cut_off : FnScope ["mirrors", "word", "lot", "weights", "rows", "taken", "place"] ["mirrors", "word", "lot"] (defScope st_cut_off) := ⟨rfl, rfl, rfl, by decide +kernel, rfl, by decide +kernel, by decide +kernel⟩
theorem ok_cut_off (T : TX P w K mg cMirrors aNUMBERS aONES) : FnOK P w K mg base 7 "cut_off" "cut_off" st_cut_off ["mirrors", "word", "lot"] F_cut_off := by
  obtain ⟨f, fd, h1, h2, h3⟩ := T.f_cut_off
  exact ⟨f, fd, h1, h2, h3, h3.binds (ps := ["mirrors", "word", "lot"]) fun _ _ _ _ _ _ us hl => match us, hl with | [_, _, _], _ => rfl,
    okF (k := 6) (tb := tb_cut_off) h3 sc_cut_off rfl rfl fun cdv A outer s H E hr =>
      (ss_cons (s2_par3 (i := 3) (j := 4) (l := 5) rfl sc_cut_off.nd rfl rfl rfl (by decide) (by decide) (by decide) rfl rfl rfl (a2_cons (c_call (ok_weights_of T) hr (by decide) (takes_of rfl rfl rfl rfl) (a2_cons (e2_var 0) a2_nil)) (a2_cons (c_call (ok_all_sent T) hr (by decide) (takes_of rfl rfl rfl rfl) (a2_cons (e2_var 0) (a2_cons (e2_var 1) a2_nil))) (a2_cons (e2_str "") a2_nil))) rfl)
      (ss_cons (s2_set (i := 6) sc_cut_off.nd rfl (Or.inl rfl) (c_call (ok_first_fall T) hr (by decide) (takes_of rfl rfl rfl rfl) (a2_cons (e2_var 0) (a2_cons (e2_var 4) (a2_cons (e2_var 2) a2_nil)))))
      (ss_cons (s2_while fuel_cut_off (passes_of rfl) (c2_cmp p_isnt o_isnt (e2_var 6) e2_non)
      (ss_cons (s2_set (i := 5) sc_cut_off.nd rfl (Or.inl rfl) (e2_op p_add o_add (e2_ix hr.u1 (e2_prop (k := 1) (tblP_one T.co_Mirrors (pr_Mirrors_letters T)) (hr.mono (by decide)) (e2_var 0)) (e2_var 6)) (e2_var 5)))
      (ss_cons (s2_set (i := 4) sc_cut_off.nd rfl (Or.inl rfl) (c_call (ok_times_letter T) hr (by decide) (takes_of rfl rfl rfl rfl) (a2_cons (e2_var 3) (a2_cons (e2_var 4) (a2_cons (e2_var 6) a2_nil)))))
      (ss_one (s2_set (i := 6) sc_cut_off.nd rfl (Or.inl rfl) (c_call (ok_first_fall T) hr (by decide) (takes_of rfl rfl rfl rfl) (a2_cons (e2_var 0) (a2_cons (e2_var 4) (a2_cons (e2_var 2) a2_nil)))))))))
      (ss_one (s2_ret (e2_tup (a2_cons (e2_var 5) (a2_cons (c_call (ok_first_of T) hr (by decide) (takes_of rfl rfl rfl rfl) (a2_cons (e2_var 0) (a2_cons (e2_op p_add o_add (e2_var 1) (e2_rev (e2_var 5))) a2_nil))) a2_nil))))))))⟩
theorem sc_both_cut : FnScope ["mirrors", "lot", "word", "rest", "before"] ["mirrors", "lot", "word", "rest"] (defScope st_both_cut) := ⟨rfl, rfl, rfl, by decide +kernel, rfl, by decide +kernel, by decide +kernel⟩
theorem ok_both_cut (T : TX P w K mg cMirrors aNUMBERS aONES) : FnOK P w K mg base 8 "both_cut" "both_cut" st_both_cut ["mirrors", "lot", "word", "rest"] F_both_cut := by
  obtain ⟨f, fd, h1, h2, h3⟩ := T.f_both_cut
  exact ⟨f, fd, h1, h2, h3, h3.binds (ps := ["mirrors", "lot", "word", "rest"]) fun _ _ _ _ _ _ us hl => match us, hl with | [_, _, _, _], _ => rfl,
    okF (k := 7) (tb := tb_both_cut) h3 sc_both_cut rfl rfl fun cdv A outer s H E hr =>
      (ss_cons (s2_set (i := 4) sc_both_cut.nd rfl (Or.inl rfl) e2_non)
      (ss_cons (s2_while fuel_both_cut (passes_of rfl) (c2_cmp (op_neD hr.u64) o_ne (e2_var 4) (e2_var 2))
      (ss_cons (s2_set (i := 4) sc_both_cut.nd rfl (Or.inl rfl) (e2_var 2))
      (ss_cons (s2_set (i := 2) sc_both_cut.nd rfl (Or.inl rfl) (e2_rev (e2_ix hr.u1 (c_call (ok_cut_off T) hr (by decide) (takes_of rfl rfl rfl rfl) (a2_cons (e2_var 0) (a2_cons (e2_rev (e2_var 2)) (a2_cons (e2_var 1) a2_nil)))) e2_int)))
      (ss_one (s2_set (i := 2) sc_both_cut.nd rfl (Or.inl rfl) (e2_ix hr.u1 (c_call (ok_cut_off T) hr (by decide) (takes_of rfl rfl rfl rfl) (a2_cons (e2_var 0) (a2_cons (e2_var 2) (a2_cons (e2_var 3) a2_nil)))) e2_int))))))
      (ss_one (s2_ret (c_call (ok_first_of T) hr (by decide) (takes_of rfl rfl rfl rfl) (a2_cons (e2_var 0) (a2_cons (e2_var 2) a2_nil)))))))⟩
theorem sc_inner : FnScope ["mirrors", "lot", "word", "rest"] ["mirrors", "lot", "word", "rest"] (defScope st_inner) := ⟨rfl, rfl, rfl, by decide +kernel, rfl, by decide +kernel, by decide +kernel⟩
theorem ok_inner (T : TX P w K mg cMirrors aNUMBERS aONES) : FnOK P w K mg base 9 "inner" "inner" st_inner ["mirrors", "lot", "word", "rest"] F_inner := by
  obtain ⟨f, fd, h1, h2, h3⟩ := T.f_inner
  exact ⟨f, fd, h1, h2, h3, h3.binds (ps := ["mirrors", "lot", "word", "rest"]) fun _ _ _ _ _ _ us hl => match us, hl with | [_, _, _, _], _ => rfl,
    okF (k := 8) (tb := tb_inner) h3 sc_inner rfl rfl fun cdv A outer s H E hr =>
      (ss_cons (s2_expr (c_call (ok_check_mirrors T) hr (by decide) (takes_of rfl rfl rfl rfl) (a2_cons (e2_var 0) a2_nil)))
      (ss_cons (s2_expr (c_call (ok_check_lot T) hr (by decide) (takes_of rfl rfl rfl rfl) (a2_cons (e2_var 0) (a2_cons (e2_var 1) a2_nil))))
      (ss_cons (s2_expr (c_call (ok_check_asked T) hr (by decide) (takes_of rfl rfl rfl rfl) (a2_cons (e2_var 0) (a2_cons (e2_var 2) a2_nil))))
      (ss_cons (s2_expr (c_call (ok_check_lot T) hr (by decide) (takes_of rfl rfl rfl rfl) (a2_cons (e2_var 0) (a2_cons (e2_var 3) a2_nil))))
      (ss_one (s2_ret (c_call (ok_both_cut T) hr (by decide) (takes_of rfl rfl rfl rfl) (a2_cons (e2_var 0) (a2_cons (e2_var 1) (a2_cons (e2_var 2) (a2_cons (e2_var 3) a2_nil)))))))))))⟩
theorem sc_parted : FnScope ["mirrors", "word", "lot", "taken", "rest"] ["mirrors", "word", "lot"] (defScope st_parted) := ⟨rfl, rfl, rfl, by decide +kernel, rfl, by decide +kernel, by decide +kernel⟩
theorem ok_parted (T : TX P w K mg cMirrors aNUMBERS aONES) : FnOK P w K mg base 8 "parted" "parted" st_parted ["mirrors", "word", "lot"] F_parted := by
  obtain ⟨f, fd, h1, h2, h3⟩ := T.f_parted
  exact ⟨f, fd, h1, h2, h3, h3.binds (ps := ["mirrors", "word", "lot"]) fun _ _ _ _ _ _ us hl => match us, hl with | [_, _, _], _ => rfl,
    okF (k := 7) (tb := tb_parted) h3 sc_parted rfl rfl fun cdv A outer s H E hr =>
      (ss_cons (s2_expr (c_call (ok_check_asked T) hr (by decide) (takes_of rfl rfl rfl rfl) (a2_cons (e2_var 0) (a2_cons (e2_var 1) a2_nil))))
      (ss_cons (s2_expr (c_call (ok_check_lot T) hr (by decide) (takes_of rfl rfl rfl rfl) (a2_cons (e2_var 0) (a2_cons (e2_var 2) a2_nil))))
      (ss_cons (s2_asg (c_call (ok_cut_off T) hr (by decide) (takes_of rfl rfl rfl rfl) (a2_cons (e2_var 0) (a2_cons (e2_var 1) (a2_cons (e2_var 2) a2_nil)))) (g2_tup rfl (gs_cons (g2_name (i := 3) sc_parted.nd rfl (Or.inl rfl)) (gs_cons (g2_name (i := 4) sc_parted.nd rfl (Or.inl rfl)) gs_nil))))
      (ss_one (s2_ret (e2_tup (a2_cons (e2_var 4) (a2_cons (c_call (ok_first_of T) hr (by decide) (takes_of rfl rfl rfl rfl) (a2_cons (e2_var 0) (a2_cons (e2_var 3) a2_nil))) a2_nil))))))))⟩
theorem sc_support_of : FnScope ["mirrors", "word", "first", "letter"] ["mirrors", "word"] (defScope st_support_of) := ⟨rfl, rfl, rfl, by decide +kernel, rfl, by decide +kernel, by decide +kernel⟩
theorem ok_support_of (T : TX P w K mg cMirrors aNUMBERS aONES) : FnOK P w K mg base 7 "support_of" "support_of" st_support_of ["mirrors", "word"] F_support_of := by
  obtain ⟨f, fd, h1, h2, h3⟩ := T.f_support_of
  exact ⟨f, fd, h1, h2, h3, h3.binds (ps := ["mirrors", "word"]) fun _ _ _ _ _ _ us hl => match us, hl with | [_, _], _ => rfl,
    okF (k := 6) (tb := tb_support_of) h3 sc_support_of rfl rfl fun cdv A outer s H E hr =>
      (ss_cons (s2_set (i := 2) sc_support_of.nd rfl (Or.inr rfl) (c_call (ok_first_of T) hr (by decide) (takes_of rfl rfl rfl rfl) (a2_cons (e2_var 0) (a2_cons (e2_var 1) a2_nil))))
      (ss_one (s2_ret (e2_bm PySem.F.plainAttrs_str PySem.F.slot_str_join PySem.F.type_str_join mb_join (e2_str "") (a2_cons (e2_lc rfl sc_support_of.nd (i2_any (e2_prop (k := 1) (tblP_one T.co_Mirrors (pr_Mirrors_letters T)) (hr.mono (by decide)) (e2_var 0))) (blkOk_by (own := [("letter", 3)]) (by kernel_rfl)) (by decide) (fun _ _ _ _ _ => (g2_name (i := 3) sc_support_of.nd rfl (Or.inl rfl))) (fun _ _ _ _ _ => (ct_one (c2_cmp (p_in hr.u65) o_in (e2_var 3) (e2_var 2)))) (fun _ _ _ _ _ => (e2_var 3))) a2_nil)))))⟩
theorem sc_support : FnScope ["mirrors", "word"] ["mirrors", "word"] (defScope st_support) := ⟨rfl, rfl, rfl, by decide +kernel, rfl, by decide +kernel, by decide +kernel⟩
theorem ok_support (T : TX P w K mg cMirrors aNUMBERS aONES) : FnOK P w K mg base 8 "support" "support" st_support ["mirrors", "word"] F_support := by
  obtain ⟨f, fd, h1, h2, h3⟩ := T.f_support
  exact ⟨f, fd, h1, h2, h3, h3.binds (ps := ["mirrors", "word"]) fun _ _ _ _ _ _ us hl => match us, hl with | [_, _], _ => rfl,
    okF (k := 7) (tb := tb_support) h3 sc_support rfl rfl fun cdv A outer s H E hr =>
      (ss_cons (s2_expr (c_call (ok_check_asked T) hr (by decide) (takes_of rfl rfl rfl rfl) (a2_cons (e2_var 0) (a2_cons (e2_var 1) a2_nil))))
      (ss_one (s2_ret (c_call (ok_support_of T) hr (by decide) (takes_of rfl rfl rfl rfl) (a2_cons (e2_var 0) (a2_cons (e2_var 1) a2_nil))))))⟩
theorem sc_is_part : FnScope ["mirrors", "word", "lot", "letter"] ["mirrors", "word", "lot"] (defScope st_is_part) := ⟨rfl, rfl, rfl, by decide +kernel, rfl, by decide +kernel, by decide +kernel⟩
theorem ok_is_part (T : TX P w K mg cMirrors aNUMBERS aONES) : FnOK P w K mg base 8 "is_part" "is_part" st_is_part ["mirrors", "word", "lot"] F_is_part := by
  obtain ⟨f, fd, h1, h2, h3⟩ := T.f_is_part
  exact ⟨f, fd, h1, h2, h3, h3.binds (ps := ["mirrors", "word", "lot"]) fun _ _ _ _ _ _ us hl => match us, hl with | [_, _, _], _ => rfl,
    okF (k := 7) (tb := tb_is_part) h3 sc_is_part rfl rfl fun cdv A outer s H E hr =>
      (ss_cons (s2_expr (c_call (ok_check_asked T) hr (by decide) (takes_of rfl rfl rfl rfl) (a2_cons (e2_var 0) (a2_cons (e2_var 1) a2_nil))))
      (ss_cons (s2_expr (c_call (ok_check_lot T) hr (by decide) (takes_of rfl rfl rfl rfl) (a2_cons (e2_var 0) (a2_cons (e2_var 2) a2_nil))))
      (ss_one (s2_ret (e2_callB (cb_all rfl) T.b_all bt_all (a2_cons (e2_lc rfl sc_is_part.nd (i2_any (c_call (ok_support_of T) hr (by decide) (takes_of rfl rfl rfl rfl) (a2_cons (e2_var 0) (a2_cons (e2_var 1) a2_nil)))) (blkOk_by (own := [("letter", 3)]) (by kernel_rfl)) (by decide) (fun _ _ _ _ _ => (g2_name (i := 3) sc_is_part.nd rfl (Or.inl rfl))) (fun _ _ _ _ _ => ct_nil) (fun _ _ _ _ _ => (e2_cmp (p_in hr.u65) o_in (e2_var 3) (e2_var 2)))) a2_nil))))))⟩
theorem sc_law_sip : FnScope ["tub", "top", "digit"] ["tub", "top"] (defScope st_law_sip) := ⟨rfl, rfl, rfl, by decide +kernel, rfl, by decide +kernel, by decide +kernel⟩
theorem ok_law_sip (T : TX P w K mg cMirrors aNUMBERS aONES) : FnOK P w K mg base 1 "_law_sip" "_law_sip" st_law_sip ["tub", "top"] F_law_sip := by
  obtain ⟨f, fd, h1, h2, h3⟩ := T.f_law_sip
  exact ⟨f, fd, h1, h2, h3, h3.binds (ps := ["tub", "top"]) fun _ _ _ _ _ _ us hl => match us, hl with | [_, _], _ => rfl,
    okF (k := 0) (tb := tb_law_sip) h3 sc_law_sip rfl rfl fun cdv A outer s H E hr =>
      (ss_cons (s2_asg (e2_op p_add o_add (e2_ix hr.u1 (e2_var 0) e2_int) e2_int) (g2_sub hr.u1 (e2_var 0) e2_int))
      (ss_cons (s2_if (c2_cmp p_gt o_gt (e2_ix hr.u1 (e2_var 0) e2_int) e2_int)
      (ss_cons (s2_set (i := 2) sc_law_sip.nd rfl (Or.inl rfl) (e2_op op_mod o_mod (e2_callT cb_int T.b_int bt_int (a2_cons (e2_ix hr.u1 (e2_var 0) e2_int) a2_nil)) (e2_var 1)))
      (ss_cons (s2_asg (e2_op op_fdivW o_fdiv (e2_callT cb_int T.b_int bt_int (a2_cons (e2_ix hr.u1 (e2_var 0) e2_int) a2_nil)) (e2_var 1)) (g2_sub hr.u1 (e2_var 0) e2_int))
      (ss_one (s2_ret (e2_var 2)))))
      ss_nil)
      (ss_cons (s2_asg (e2_op op_mod o_mod (e2_callT cb_int T.b_int bt_int (a2_cons (e2_op p_add o_add (e2_op p_add o_add (e2_op p_mul o_mul (e2_ix hr.u1 (e2_var 0) e2_int) e2_int) (e2_op p_mul o_mul e2_int (e2_ix hr.u1 (e2_var 0) e2_int))) e2_int) a2_nil)) e2_int) (g2_sub hr.u1 (e2_var 0) e2_int))
      (ss_one (s2_ret (e2_op op_mod o_mod (e2_callT cb_int T.b_int bt_int (a2_cons (e2_op op_fdivW o_fdiv (e2_ix hr.u1 (e2_var 0) e2_int) e2_int) a2_nil)) (e2_var 1)))))))⟩
theorem sc_law_pick : FnScope ["tub", "menu"] ["tub", "menu"] (defScope st_law_pick) := ⟨rfl, rfl, rfl, by decide +kernel, rfl, by decide +kernel, by decide +kernel⟩
theorem ok_law_pick (T : TX P w K mg cMirrors aNUMBERS aONES) : FnOK P w K mg base 2 "_law_pick" "_law_pick" st_law_pick ["tub", "menu"] F_law_pick := by
  obtain ⟨f, fd, h1, h2, h3⟩ := T.f_law_pick
  exact ⟨f, fd, h1, h2, h3, h3.binds (ps := ["tub", "menu"]) fun _ _ _ _ _ _ us hl => match us, hl with | [_, _], _ => rfl,
    okF (k := 1) (tb := tb_law_pick) h3 sc_law_pick rfl rfl fun cdv A outer s H E hr =>
      (ss_one (s2_ret (e2_ix hr.u1 (e2_var 1) (c_call (ok_law_sip T) hr (by decide) (takes_of rfl rfl rfl rfl) (a2_cons (e2_var 0) (a2_cons (e2_callB cb_len T.b_len bt_len (a2_cons (e2_var 1) a2_nil)) a2_nil))))))⟩
theorem sc_law_plan : FnScope ["tub", "most", "many", "found", "i", "j", "m"] ["tub", "most"] (defScope st_law_plan) := ⟨rfl, rfl, rfl, by decide +kernel, rfl, by decide +kernel, by decide +kernel⟩
theorem ok_law_plan (T : TX P w K mg cMirrors aNUMBERS aONES) : FnOK P w K mg base 3 "_law_plan" "_law_plan" st_law_plan ["tub", "most"] F_law_plan := by
  obtain ⟨f, fd, h1, h2, h3⟩ := T.f_law_plan
  exact ⟨f, fd, h1, h2, h3, h3.binds (ps := ["tub", "most"]) fun _ _ _ _ _ _ us hl => match us, hl with | [_, _], _ => rfl,
    okF (k := 2) (tb := tb_law_plan) h3 sc_law_plan rfl rfl fun cdv A outer s H E hr =>
      (ss_cons (s2_par (i := 2) (j := 3) rfl sc_law_plan.nd rfl rfl (by decide) rfl rfl (a2_cons (e2_op p_add o_add e2_int (c_call (ok_law_sip T) hr (by decide) (takes_of rfl rfl rfl rfl) (a2_cons (e2_var 0) (a2_cons (e2_var 1) a2_nil)))) (a2_cons e2_newDict a2_nil)) rfl)
      (ss_cons (s2_for (passes_of rfl) rfl (i2_range1 T.b_range (a2_cons (e2_var 2) a2_nil)) (g2_name (i := 4) sc_law_plan.nd rfl (Or.inl rfl))
      (ss_one (s2_for (passes_of rfl) rfl (i2_range2 T.b_range (a2_cons (e2_op p_add o_add (e2_var 4) e2_int) (a2_cons (e2_var 2) a2_nil))) (g2_name (i := 5) sc_law_plan.nd rfl (Or.inl rfl))
      (ss_cons (s2_set (i := 6) sc_law_plan.nd rfl (Or.inl rfl) (c_call (ok_law_pick T) hr (by decide) (takes_of rfl rfl rfl rfl) (a2_cons (e2_var 0) (a2_cons (e2_lst (a2_cons e2_int (a2_cons e2_int (a2_cons e2_int (a2_cons e2_int (a2_cons e2_int (a2_cons e2_int (a2_cons e2_int (a2_cons e2_int a2_nil))))))))) a2_nil))))
      (ss_one (s2_if (c2_cmp (op_neD hr.u64) o_ne (e2_var 6) e2_int)
      (ss_one (s2_asg (e2_var 6) (g2_sub hr.u1 (e2_var 3) (e2_op p_add o_add (e2_ix hr.u1 (e2_str "abcdef") (e2_var 4)) (e2_ix hr.u1 (e2_str "abcdef") (e2_var 5))))))
      ss_nil))))))
      (ss_one (s2_ret (e2_lst (a2_cons (e2_var 2) (a2_cons (e2_frz (e2_var 3)) a2_nil)))))))⟩
theorem sc_law_angles : FnScope ["plan", "pair"] ["plan"] (defScope st_law_angles) := ⟨rfl, rfl, rfl, by decide +kernel, rfl, by decide +kernel, by decide +kernel⟩
theorem ok_law_angles (T : TX P w K mg cMirrors aNUMBERS aONES) : FnOK P w K mg base 1 "_law_angles" "_law_angles" st_law_angles ["plan"] F_law_angles := by
  obtain ⟨f, fd, h1, h2, h3⟩ := T.f_law_angles
  exact ⟨f, fd, h1, h2, h3, h3.binds (ps := ["plan"]) fun _ _ _ _ _ _ us hl => match us, hl with | [_], _ => rfl,
    okF (k := 0) (tb := tb_law_angles) h3 sc_law_angles rfl rfl fun cdv A outer s H E hr =>
      (ss_one (s2_ret (e2_callT cb_tuple T.b_tuple bt_tuple (a2_cons (e2_lc rfl sc_law_angles.nd (i2_any (e2_callB (cb_sorted2 hr rfl) T.b_sorted bt_sorted (a2_cons (e2_ix hr.u1 (e2_var 0) e2_int) a2_nil))) (blkOk_by (own := [("pair", 1)]) (by kernel_rfl)) (by decide) (fun _ _ _ _ _ => (g2_name (i := 1) sc_law_angles.nd rfl (Or.inl rfl))) (fun _ _ _ _ _ => ct_nil) (fun _ _ _ _ _ => (e2_tup (a2_cons (e2_ix hr.u1 (e2_var 1) e2_int) (a2_cons (e2_ix hr.u1 (e2_var 1) e2_int) (a2_cons (e2_ix hr.u1 (e2_ix hr.u1 (e2_var 0) e2_int) (e2_var 1)) a2_nil)))))) a2_nil))))⟩
theorem sc_law_made : FnScope ["plan"] ["plan"] (defScope st_law_made) := ⟨rfl, rfl, rfl, by decide +kernel, rfl, by decide +kernel, by decide +kernel⟩
theorem ok_law_made (T : TX P w K mg cMirrors aNUMBERS aONES) : FnOK P w K mg base 6 "_law_made" "_law_made" st_law_made ["plan"] F_law_made := by
  obtain ⟨f, fd, h1, h2, h3⟩ := T.f_law_made
  exact ⟨f, fd, h1, h2, h3, h3.binds (ps := ["plan"]) fun _ _ _ _ _ _ us hl => match us, hl with | [_], _ => rfl,
    okF (k := 5) (tb := tb_law_made) h3 sc_law_made rfl rfl fun cdv A outer s H E hr =>
      (ss_one (s2_ret (c_make (mk_Mirrors T bk_Mirrors_init_3) rfl (hr.mono (by decide)) (takes_of rfl rfl rfl rfl) (e2_gloE "Mirrors" ⟨_, T.m_Mirrors⟩) (a2_cons (e2_ix hr.u1 (e2_var 0) e2_int) (a2_cons (c_call (ok_law_angles T) hr (by decide) (takes_of rfl rfl rfl rfl) (a2_cons (e2_var 0) a2_nil)) a2_nil)) k2_nil)))⟩
theorem sc_law_word : FnScope ["tub", "plan", "most", "k"] ["tub", "plan", "most"] (defScope st_law_word) := ⟨rfl, rfl, rfl, by decide +kernel, rfl, by decide +kernel, by decide +kernel⟩
theorem ok_law_word (T : TX P w K mg cMirrors aNUMBERS aONES) : FnOK P w K mg base 2 "_law_word" "_law_word" st_law_word ["tub", "plan", "most"] F_law_word := by
  obtain ⟨f, fd, h1, h2, h3⟩ := T.f_law_word
  exact ⟨f, fd, h1, h2, h3, h3.binds (ps := ["tub", "plan", "most"]) fun _ _ _ _ _ _ us hl => match us, hl with | [_, _, _], _ => rfl,
    okF (k := 1) (tb := tb_law_word) h3 sc_law_word rfl rfl fun cdv A outer s H E hr =>
      (ss_one (s2_ret (e2_bm PySem.F.plainAttrs_str PySem.F.slot_str_join PySem.F.type_str_join mb_join (e2_str "") (a2_cons (e2_lc rfl sc_law_word.nd (i2_range1 T.b_range (a2_cons (c_call (ok_law_sip T) hr (by decide) (takes_of rfl rfl rfl rfl) (a2_cons (e2_var 0) (a2_cons (e2_op p_add o_add (e2_var 2) e2_int) a2_nil))) a2_nil)) (blkOk_by (own := [("k", 3)]) (by kernel_rfl)) (by decide) (fun _ _ _ _ _ => (g2_name (i := 3) sc_law_word.nd rfl (Or.inl rfl))) (fun _ _ _ _ _ => ct_nil) (fun _ _ _ _ _ => (e2_ix hr.u1 (e2_str "abcdef") (c_call (ok_law_sip T) hr (by decide) L2.takes0 (a2_cons (e2_var 0) (a2_cons (e2_ix hr.u1 (e2_var 1) e2_int) a2_nil)))))) a2_nil))))⟩
theorem sc_law_lot : FnScope ["tub", "plan", "x"] ["tub", "plan"] (defScope st_law_lot) := ⟨rfl, rfl, rfl, by decide +kernel, rfl, by decide +kernel, by decide +kernel⟩
theorem ok_law_lot (T : TX P w K mg cMirrors aNUMBERS aONES) : FnOK P w K mg base 2 "_law_lot" "_law_lot" st_law_lot ["tub", "plan"] F_law_lot := by
  obtain ⟨f, fd, h1, h2, h3⟩ := T.f_law_lot
  exact ⟨f, fd, h1, h2, h3, h3.binds (ps := ["tub", "plan"]) fun _ _ _ _ _ _ us hl => match us, hl with | [_, _], _ => rfl,
    okF (k := 1) (tb := tb_law_lot) h3 sc_law_lot rfl rfl fun cdv A outer s H E hr =>
      (ss_one (s2_ret (e2_bm PySem.F.plainAttrs_str PySem.F.slot_str_join PySem.F.type_str_join mb_join (e2_str "") (a2_cons (e2_lc rfl sc_law_lot.nd (i2_any (e2_slc (e2_str "abcdef") o2_none (o2_some (e2_ix hr.u1 (e2_var 1) e2_int)))) (blkOk_by (own := [("x", 2)]) (by kernel_rfl)) (by decide) (fun _ _ _ _ _ => (g2_name (i := 2) sc_law_lot.nd rfl (Or.inl rfl))) (fun _ _ _ _ _ => (ct_one (c2_cmp (op_eqD hr.u64) o_eq (c_call (ok_law_sip T) hr (by decide) L2.takes0 (a2_cons (e2_var 0) (a2_cons e2_int a2_nil))) e2_int))) (fun _ _ _ _ _ => (e2_var 2))) a2_nil))))⟩
theorem sc_law_m : FnScope ["plan", "x", "y"] ["plan", "x", "y"] (defScope st_law_m) := ⟨rfl, rfl, rfl, by decide +kernel, rfl, by decide +kernel, by decide +kernel⟩
theorem ok_law_m (T : TX P w K mg cMirrors aNUMBERS aONES) : FnOK P w K mg base 1 "_law_m" "_law_m" st_law_m ["plan", "x", "y"] F_law_m := by
  obtain ⟨f, fd, h1, h2, h3⟩ := T.f_law_m
  exact ⟨f, fd, h1, h2, h3, h3.binds (ps := ["plan", "x", "y"]) fun _ _ _ _ _ _ us hl => match us, hl with | [_, _, _], _ => rfl,
    okF (k := 0) (tb := tb_law_m) h3 sc_law_m rfl rfl fun cdv A outer s H E hr =>
      (ss_one (s2_ret (e2_get2 hr.u1 (e2_ix hr.u1 (e2_var 0) e2_int) (e2_op p_add o_add (e2_callB (cb_min hr rfl) T.b_min bt_min (a2_cons (e2_var 1) (a2_cons (e2_var 2) a2_nil))) (e2_callB (cb_max hr rfl) T.b_max bt_max (a2_cons (e2_var 1) (a2_cons (e2_var 2) a2_nil)))) e2_int)))⟩
theorem sc_law_turns : FnScope ["plan", "word", "found", "k", "x", "y", "m"] ["plan", "word"] (defScope st_law_turns) := ⟨rfl, rfl, rfl, by decide +kernel, rfl, by decide +kernel, by decide +kernel⟩
theorem ok_law_turns (T : TX P w K mg cMirrors aNUMBERS aONES) : FnOK P w K mg base 2 "_law_turns" "_law_turns" st_law_turns ["plan", "word"] F_law_turns := by
  obtain ⟨f, fd, h1, h2, h3⟩ := T.f_law_turns
  exact ⟨f, fd, h1, h2, h3, h3.binds (ps := ["plan", "word"]) fun _ _ _ _ _ _ us hl => match us, hl with | [_, _], _ => rfl,
    okF (k := 1) (tb := tb_law_turns) h3 sc_law_turns rfl rfl fun cdv A outer s H E hr =>
      (ss_cons (s2_set (i := 2) sc_law_turns.nd rfl (Or.inl rfl) (e2_lstM a2_nil))
      (ss_cons (s2_for (passes_of rfl) rfl (i2_range1 T.b_range (a2_cons (e2_op op_sub o_sub (e2_callB cb_len T.b_len bt_len (a2_cons (e2_var 1) a2_nil)) e2_int) a2_nil)) (g2_name (i := 3) sc_law_turns.nd rfl (Or.inl rfl))
      (ss_cons (s2_par (i := 4) (j := 5) rfl sc_law_turns.nd rfl rfl (by decide) rfl rfl (a2_cons (e2_ix hr.u1 (e2_var 1) (e2_var 3)) (a2_cons (e2_ix hr.u1 (e2_var 1) (e2_op p_add o_add (e2_var 3) e2_int)) a2_nil)) rfl)
      (ss_cons (s2_set (i := 6) sc_law_turns.nd rfl (Or.inl rfl) (e2_if (c2_cmp (op_neD hr.u64) o_ne (e2_var 4) (e2_var 5)) (c_call (ok_law_m T) hr (by decide) (takes_of rfl rfl rfl rfl) (a2_cons (e2_var 0) (a2_cons (e2_var 4) (a2_cons (e2_var 5) a2_nil)))) e2_int))
      (ss_one (s2_if (c2_bool (b2_and (c2_cmp p_gt o_gt (e2_var 6) e2_int) (b2_and1 (c2_cmp (op_eqD hr.u64) o_eq (e2_slc (e2_var 1) (o2_some (e2_var 3)) (o2_some (e2_op p_add o_add (e2_var 3) (e2_var 6)))) (e2_slc (e2_op p_mul o_mul (e2_op p_add o_add (e2_var 4) (e2_var 5)) e2_int) o2_none (o2_some (e2_var 6)))))))
      (ss_one (s2_expr (e2_bm PySem.F.plainAttrs_list PySem.F.slot_list_append PySem.F.type_list_append mb_append (e2_var 2) (a2_cons (e2_op p_add o_add (e2_op p_add o_add (e2_slc (e2_var 1) o2_none (o2_some (e2_var 3))) (e2_slc (e2_op p_mul o_mul (e2_op p_add o_add (e2_var 5) (e2_var 4)) e2_int) o2_none (o2_some (e2_var 6)))) (e2_slc (e2_var 1) (o2_some (e2_op p_add o_add (e2_var 3) (e2_var 6))) o2_none)) a2_nil))))
      ss_nil)))))
      (ss_one (s2_ret (e2_frz (e2_var 2))))))⟩
theorem sc_law_turned_all : FnScope ["plan", "word", "found", "spot", "known", "turn", "each"] ["plan", "word"] (defScope st_law_turned_all) := ⟨rfl, rfl, rfl, by decide +kernel, rfl, by decide +kernel, by decide +kernel⟩
theorem ok_law_turned_all (T : TX P w K mg cMirrors aNUMBERS aONES) : FnOK P w K mg base 3 "_law_turned_all" "_law_turned_all" st_law_turned_all ["plan", "word"] F_law_turned_all := by
  obtain ⟨f, fd, h1, h2, h3⟩ := T.f_law_turned_all
  exact ⟨f, fd, h1, h2, h3, h3.binds (ps := ["plan", "word"]) fun _ _ _ _ _ _ us hl => match us, hl with | [_, _], _ => rfl,
    okF (k := 2) (tb := tb_law_turned_all) h3 sc_law_turned_all rfl rfl fun cdv A outer s H E hr =>
      (ss_cons (s2_par (i := 2) (j := 3) rfl sc_law_turned_all.nd rfl rfl (by decide) rfl rfl (a2_cons (e2_lstM (a2_cons (e2_var 1) a2_nil)) (a2_cons e2_int a2_nil)) rfl)
      (ss_cons (s2_set (i := 4) sc_law_turned_all.nd rfl (Or.inl rfl) (e2_dict1 (e2_var 1) e2_bl))
      (ss_cons (s2_for (passes_of rfl) rfl (i2_range1 T.b_range (a2_cons (e2_op op_pow o_pow e2_int e2_int) a2_nil)) (g2_name (i := 5) sc_law_turned_all.nd rfl (Or.inl rfl))
      (ss_cons (s2_if (c2_cmp (op_eqD hr.u64) o_eq (e2_var 3) (e2_callB cb_len T.b_len bt_len (a2_cons (e2_var 2) a2_nil)))
      (ss_one (s2_ret (e2_frz (e2_var 2))))
      ss_nil)
      (ss_cons (s2_for (passes_of rfl) rfl (i2_any (c_call (ok_law_turns T) hr (by decide) (takes_of rfl rfl rfl rfl) (a2_cons (e2_var 0) (a2_cons (e2_ix hr.u1 (e2_var 2) (e2_var 3)) a2_nil)))) (g2_name (i := 6) sc_law_turned_all.nd rfl (Or.inl rfl))
      (ss_one (s2_if (c2_cmp (p_notIn hr.u65) o_notIn (e2_var 6) (e2_var 4))
      (ss_cons (s2_asg e2_bl (g2_sub hr.u1 (e2_var 4) (e2_var 6)))
      (ss_one (s2_expr (e2_bm PySem.F.plainAttrs_list PySem.F.slot_list_append PySem.F.type_list_append mb_append (e2_var 2) (a2_cons (e2_var 6) a2_nil)))))
      ss_nil)))
      (ss_one (s2_set (i := 3) sc_law_turned_all.nd rfl (Or.inl rfl) (e2_op p_add o_add (e2_var 3) e2_int))))))
      (ss_one (s2_ret (e2_frz (e2_var 2)))))))⟩
theorem sc_law_strikes : FnScope ["word", "k"] ["word"] (defScope st_law_strikes) := ⟨rfl, rfl, rfl, by decide +kernel, rfl, by decide +kernel, by decide +kernel⟩
theorem ok_law_strikes (T : TX P w K mg cMirrors aNUMBERS aONES) : FnOK P w K mg base 1 "_law_strikes" "_law_strikes" st_law_strikes ["word"] F_law_strikes := by
  obtain ⟨f, fd, h1, h2, h3⟩ := T.f_law_strikes
  exact ⟨f, fd, h1, h2, h3, h3.binds (ps := ["word"]) fun _ _ _ _ _ _ us hl => match us, hl with | [_], _ => rfl,
    okF (k := 0) (tb := tb_law_strikes) h3 sc_law_strikes rfl rfl fun cdv A outer s H E hr =>
      (ss_one (s2_ret (e2_lc rfl sc_law_strikes.nd (i2_range1 T.b_range (a2_cons (e2_op op_sub o_sub (e2_callB cb_len T.b_len bt_len (a2_cons (e2_var 0) a2_nil)) e2_int) a2_nil)) (blkOk_by (own := [("k", 1)]) (by kernel_rfl)) (by decide) (fun _ _ _ _ _ => (g2_name (i := 1) sc_law_strikes.nd rfl (Or.inl rfl))) (fun _ _ _ _ _ => (ct_one (c2_cmp (op_eqD hr.u64) o_eq (e2_ix hr.u1 (e2_var 0) (e2_var 1)) (e2_ix hr.u1 (e2_var 0) (e2_op p_add o_add (e2_var 1) e2_int))))) (fun _ _ _ _ _ => (e2_op p_add o_add (e2_slc (e2_var 0) o2_none (o2_some (e2_var 1))) (e2_slc (e2_var 0) (o2_some (e2_op p_add o_add (e2_var 1) e2_int)) o2_none))))))⟩
theorem sc_law_class : FnScope ["plan", "word", "turn", "words", "shorter", "each"] ["plan", "word"] (defScope st_law_class) := ⟨rfl, rfl, rfl, by decide +kernel, rfl, by decide +kernel, by decide +kernel⟩
theorem ok_law_class (T : TX P w K mg cMirrors aNUMBERS aONES) : FnOK P w K mg base 4 "_law_class" "_law_class" st_law_class ["plan", "word"] F_law_class := by
  obtain ⟨f, fd, h1, h2, h3⟩ := T.f_law_class
  exact ⟨f, fd, h1, h2, h3, h3.binds (ps := ["plan", "word"]) fun _ _ _ _ _ _ us hl => match us, hl with | [_, _], _ => rfl,
    okF (k := 3) (tb := tb_law_class) h3 sc_law_class rfl rfl fun cdv A outer s H E hr =>
      (ss_cons (s2_for (passes_of rfl) rfl (i2_range1 T.b_range (a2_cons e2_int a2_nil)) (g2_name (i := 2) sc_law_class.nd rfl (Or.inl rfl))
      (ss_cons (s2_set (i := 3) sc_law_class.nd rfl (Or.inl rfl) (c_call (ok_law_turned_all T) hr (by decide) (takes_of rfl rfl rfl rfl) (a2_cons (e2_var 0) (a2_cons (e2_var 1) a2_nil))))
      (ss_cons (s2_set (i := 4) sc_law_class.nd rfl (Or.inl rfl) (e2_lst a2_nil))
      (ss_cons (s2_for (passes_of rfl) rfl (i2_any (e2_var 3)) (g2_name (i := 5) sc_law_class.nd rfl (Or.inl rfl))
      (ss_one (s2_set (i := 4) sc_law_class.nd rfl (Or.inl rfl) (e2_op p_add o_add (e2_var 4) (e2_slc (c_call (ok_law_strikes T) hr (by decide) (takes_of rfl rfl rfl rfl) (a2_cons (e2_var 5) a2_nil)) o2_none (o2_some e2_int))))))
      (ss_cons (s2_if (c2_cmp (op_eqD hr.u64) o_eq (e2_var 4) (e2_lst a2_nil))
      (ss_one (s2_ret (e2_callB (cb_sorted2 hr rfl) T.b_sorted bt_sorted (a2_cons (e2_var 3) a2_nil))))
      ss_nil)
      (ss_one (s2_set (i := 1) sc_law_class.nd rfl (Or.inl rfl) (e2_ix hr.u1 (e2_var 4) e2_int))))))))
      (ss_one (s2_ret (e2_lst a2_nil))))⟩
theorem sc_law_shortest_of : FnScope ["plan", "word", "ahead", "after", "turn", "some", "less", "x", "each"] ["plan", "word", "ahead", "after"] (defScope st_law_shortest_of) := ⟨rfl, rfl, rfl, by decide +kernel, rfl, by decide +kernel, by decide +kernel⟩
theorem ok_law_shortest_of (T : TX P w K mg cMirrors aNUMBERS aONES) : FnOK P w K mg base 5 "_law_shortest_of" "_law_shortest_of" st_law_shortest_of ["plan", "word", "ahead", "after"] F_law_shortest_of := by
  obtain ⟨f, fd, h1, h2, h3⟩ := T.f_law_shortest_of
  exact ⟨f, fd, h1, h2, h3, h3.binds (ps := ["plan", "word", "ahead", "after"]) fun _ _ _ _ _ _ us hl => match us, hl with | [_, _, _, _], _ => rfl,
    okF (k := 4) (tb := tb_law_shortest_of) h3 sc_law_shortest_of rfl rfl fun cdv A outer s H E hr =>
      (ss_cons (s2_set (i := 1) sc_law_shortest_of.nd rfl (Or.inr rfl) (e2_ix hr.u1 (c_call (ok_law_class T) hr (by decide) (takes_of rfl rfl rfl rfl) (a2_cons (e2_var 0) (a2_cons (e2_var 1) a2_nil))) e2_int))
      (ss_cons (s2_for (passes_of rfl) rfl (i2_range1 T.b_range (a2_cons e2_int a2_nil)) (g2_name (i := 4) sc_law_shortest_of.nd rfl (Or.inl rfl))
      (ss_cons (s2_set (i := 5) sc_law_shortest_of.nd rfl (Or.inl rfl) (e2_op p_add o_add (e2_lc rfl sc_law_shortest_of.nd (i2_any (e2_var 2)) (blkOk_by (own := [("x", 7)]) (by kernel_rfl)) (by decide) (fun _ _ _ _ _ => (g2_name (i := 7) sc_law_shortest_of.nd rfl (Or.inl rfl))) (fun _ _ _ _ _ => ct_nil) (fun _ _ _ _ _ => (e2_op p_add o_add (e2_var 7) (e2_var 1)))) (e2_lc rfl sc_law_shortest_of.nd (i2_any (e2_var 3)) (blkOk_by (own := [("x", 7)]) (by kernel_rfl)) (by decide) (fun _ _ _ _ _ => (g2_name (i := 7) sc_law_shortest_of.nd rfl (Or.inl rfl))) (fun _ _ _ _ _ => ct_nil) (fun _ _ _ _ _ => (e2_op p_add o_add (e2_var 1) (e2_var 7))))))
      (ss_cons (s2_setLc (i := 6) rfl sc_law_shortest_of.nd rfl rfl rfl (i2_any (e2_var 5)) (blkOk_by (own := [("each", 8)]) (by kernel_rfl)) (by decide) (fun _ _ _ _ _ => (g2_name (i := 8) sc_law_shortest_of.nd rfl (Or.inl rfl))) (fun _ _ _ _ _ => ct_nil) (fun _ _ _ _ _ => (e2_ix hr.u1 (c_call (ok_law_class T) hr (by decide) L2.takes0 (a2_cons (e2_var 0) (a2_cons (e2_var 8) a2_nil))) e2_int)))
      (ss_cons (s2_setLc (i := 6) rfl sc_law_shortest_of.nd rfl rfl rfl (i2_any (e2_var 6)) (blkOk_by (own := [("each", 8)]) (by kernel_rfl)) (by decide) (fun _ _ _ _ _ => (g2_name (i := 8) sc_law_shortest_of.nd rfl (Or.inl rfl))) (fun _ _ _ _ _ => (ct_one (c2_cmp p_lt o_lt (e2_callB cb_len T.b_len bt_len (a2_cons (e2_var 8) a2_nil)) (e2_callB cb_len T.b_len bt_len (a2_cons (e2_var 1) a2_nil))))) (fun _ _ _ _ _ => (e2_var 8)))
      (ss_cons (s2_if (c2_cmp (op_eqD hr.u64) o_eq (e2_var 6) (e2_lst a2_nil))
      (ss_one (s2_ret (e2_var 1)))
      ss_nil)
      (ss_one (s2_set (i := 1) sc_law_shortest_of.nd rfl (Or.inr rfl) (e2_ix hr.u1 (e2_var 6) e2_int))))))))
      (ss_one (s2_ret (e2_var 1)))))⟩
theorem sc_law_right : FnScope ["tub", "turn", "plan", "mine", "word", "lot", "rest", "found", "first", "last", "due", "x"] ["tub"] (defScope st_law_right) := ⟨rfl, rfl, rfl, by decide +kernel, rfl, by decide +kernel, by decide +kernel⟩
theorem ok_law_right (T : TX P w K mg cMirrors aNUMBERS aONES) : FnOK P w K mg base 10 "_law_right" "_law_right" st_law_right ["tub"] F_law_right := by
  obtain ⟨f, fd, h1, h2, h3⟩ := T.f_law_right
  exact ⟨f, fd, h1, h2, h3, h3.binds (ps := ["tub"]) fun _ _ _ _ _ _ us hl => match us, hl with | [_], _ => rfl,
    okF (k := 9) (tb := tb_law_right) h3 sc_law_right rfl rfl fun cdv A outer s H E hr =>
      (ss_cons (s2_for (passes_of rfl) rfl (i2_range1 T.b_range (a2_cons e2_int a2_nil)) (g2_name (i := 1) sc_law_right.nd rfl (Or.inl rfl))
      (ss_cons (s2_set (i := 2) sc_law_right.nd rfl (Or.inl rfl) (c_call (ok_law_plan T) hr (by decide) (takes_of rfl rfl rfl rfl) (a2_cons (e2_var 0) (a2_cons e2_int a2_nil))))
      (ss_cons (s2_par (i := 3) (j := 4) rfl sc_law_right.nd rfl rfl (by decide) rfl rfl (a2_cons (c_call (ok_law_made T) hr (by decide) (takes_of rfl rfl rfl rfl) (a2_cons (e2_var 2) a2_nil)) (a2_cons (c_call (ok_law_word T) hr (by decide) (takes_of rfl rfl rfl rfl) (a2_cons (e2_var 0) (a2_cons (e2_var 2) (a2_cons e2_int a2_nil)))) a2_nil)) rfl)
      (ss_cons (s2_asg (e2_tup (a2_cons (c_call (ok_law_lot T) hr (by decide) (takes_of rfl rfl rfl rfl) (a2_cons (e2_var 0) (a2_cons (e2_var 2) a2_nil))) (a2_cons (c_call (ok_law_lot T) hr (by decide) (takes_of rfl rfl rfl rfl) (a2_cons (e2_var 0) (a2_cons (e2_var 2) a2_nil))) a2_nil))) (g2_tup rfl (gs_cons (g2_name (i := 5) sc_law_right.nd rfl (Or.inr rfl)) (gs_cons (g2_name (i := 6) sc_law_right.nd rfl (Or.inl rfl)) gs_nil))))
      (ss_cons (s2_set (i := 7) sc_law_right.nd rfl (Or.inl rfl) (c_call (ok_parted T) hr (by decide) (takes_of rfl rfl rfl rfl) (a2_cons (e2_var 3) (a2_cons (e2_var 4) (a2_cons (e2_var 5) a2_nil)))))
      (ss_cons (s2_if (c2_bool (b2_or (c2_not (c2_val (e2_callB (cb_isinst (T.isok _ rfl rfl)) T.b_isinstance bt_isinstance (a2_cons (e2_var 7) (a2_cons (e2_bty T.b_tuple bt_tuple) a2_nil))))) (b2_or (c2_cmp (op_neD hr.u64) o_ne (e2_callB cb_len T.b_len bt_len (a2_cons (e2_var 7) a2_nil)) e2_int) (b2_or1 (c2_cmp (op_neD hr.u64) o_ne (c_callK0 (ok_parted T) hr (by decide) (takes_of rfl rfl rfl rfl) bk_parted_0_lot_word_mirrors rfl (k2_cons (e2_var 5) (k2_cons (e2_var 4) (k2_cons (e2_var 3) k2_nil)))) (e2_var 7))))))
      (ss_one (s2_ret e2_bl))
      ss_nil)
      (ss_cons (s2_asg (e2_var 7) (g2_tup rfl (gs_cons (g2_name (i := 8) sc_law_right.nd rfl (Or.inl rfl)) (gs_cons (g2_name (i := 9) sc_law_right.nd rfl (Or.inl rfl)) gs_nil))))
      (ss_cons (s2_if (c2_bool (b2_or (c2_cmp (op_neD hr.u64) o_ne (e2_var 8) (c_call (ok_law_shortest_of T) hr (by decide) (takes_of rfl rfl rfl rfl) (a2_cons (e2_var 2) (a2_cons (e2_var 4) (a2_cons (e2_str "") (a2_cons (e2_var 5) a2_nil)))))) (b2_or1 (c2_cmp (op_neD hr.u64) o_ne (e2_lc rfl sc_law_right.nd (i2_any (e2_var 9)) (blkOk_by (own := [("x", 11)]) (by kernel_rfl)) (by decide) (fun _ _ _ _ _ => (g2_name (i := 11) sc_law_right.nd rfl (Or.inl rfl))) (fun _ _ _ _ _ => (ct_one (c2_cmp (p_notIn hr.u65) o_notIn (e2_var 11) (e2_var 5)))) (fun _ _ _ _ _ => (e2_var 11))) (e2_lst a2_nil)))))
      (ss_one (s2_ret e2_bl))
      ss_nil)
      (ss_cons (s2_if (c2_bool (b2_or (c2_cmp (op_neD hr.u64) o_ne (c_call (ok_law_class T) hr (by decide) (takes_of rfl rfl rfl rfl) (a2_cons (e2_var 2) (a2_cons (e2_op p_add o_add (e2_var 8) (e2_var 9)) a2_nil))) (c_call (ok_law_class T) hr (by decide) (takes_of rfl rfl rfl rfl) (a2_cons (e2_var 2) (a2_cons (e2_var 4) a2_nil)))) (b2_or1 (c2_cmp (op_neD hr.u64) o_ne (e2_ix hr.u1 (c_call (ok_law_class T) hr (by decide) (takes_of rfl rfl rfl rfl) (a2_cons (e2_var 2) (a2_cons (e2_var 9) a2_nil))) e2_int) (e2_var 9)))))
      (ss_one (s2_ret e2_bl))
      ss_nil)
      (ss_cons (s2_if (c2_cmp (op_neD hr.u64) o_ne (e2_op p_add o_add (e2_callB cb_len T.b_len bt_len (a2_cons (e2_var 8) a2_nil)) (e2_callB cb_len T.b_len bt_len (a2_cons (e2_var 9) a2_nil))) (e2_callB cb_len T.b_len bt_len (a2_cons (e2_ix hr.u1 (c_call (ok_law_class T) hr (by decide) (takes_of rfl rfl rfl rfl) (a2_cons (e2_var 2) (a2_cons (e2_var 4) a2_nil))) e2_int) a2_nil)))
      (ss_one (s2_ret e2_bl))
      ss_nil)
      (ss_cons (s2_set (i := 10) sc_law_right.nd rfl (Or.inl rfl) (c_call (ok_law_shortest_of T) hr (by decide) (takes_of rfl rfl rfl rfl) (a2_cons (e2_var 2) (a2_cons (e2_var 4) (a2_cons (e2_var 5) (a2_cons (e2_var 6) a2_nil))))))
      (ss_cons (s2_if (c2_cmp (op_neD hr.u64) o_ne (e2_callB (cb_repr hr) T.b_repr bt_repr (a2_cons (e2_lst (a2_cons (c_call (ok_inner T) hr (by decide) (takes_of rfl rfl rfl rfl) (a2_cons (e2_var 3) (a2_cons (e2_var 5) (a2_cons (e2_var 4) (a2_cons (e2_var 6) a2_nil))))) (a2_cons (c_callK0 (ok_inner T) hr (by decide) (takes_of rfl rfl rfl rfl) bk_inner_0_rest_word_lot_mirrors rfl (k2_cons (e2_var 6) (k2_cons (e2_var 4) (k2_cons (e2_var 5) (k2_cons (e2_var 3) k2_nil))))) a2_nil))) a2_nil)) (e2_callB (cb_repr hr) T.b_repr bt_repr (a2_cons (e2_lst (a2_cons (e2_var 10) (a2_cons (e2_var 10) a2_nil))) a2_nil)))
      (ss_one (s2_ret e2_bl))
      ss_nil)
      (ss_cons (s2_set (i := 10) sc_law_right.nd rfl (Or.inl rfl) (e2_bm PySem.F.plainAttrs_str PySem.F.slot_str_join PySem.F.type_str_join mb_join (e2_str "") (a2_cons (e2_callB (cb_sorted2 hr rfl) T.b_sorted bt_sorted (a2_cons (e2_callT (cb_dictP rfl) T.b_dict bt_dict (a2_cons (e2_lc rfl sc_law_right.nd (i2_any (e2_ix hr.u1 (c_call (ok_law_class T) hr (by decide) (takes_of rfl rfl rfl rfl) (a2_cons (e2_var 2) (a2_cons (e2_var 4) a2_nil))) e2_int)) (blkOk_by (own := [("x", 11)]) (by kernel_rfl)) (by decide) (fun _ _ _ _ _ => (g2_name (i := 11) sc_law_right.nd rfl (Or.inl rfl))) (fun _ _ _ _ _ => ct_nil) (fun _ _ _ _ _ => (e2_tup (a2_cons (e2_var 11) (a2_cons e2_bl a2_nil))))) a2_nil)) a2_nil)) a2_nil)))
      (ss_cons (s2_if (c2_cmp (op_neD hr.u64) o_ne (e2_callB (cb_repr hr) T.b_repr bt_repr (a2_cons (e2_lst (a2_cons (c_call (ok_support T) hr (by decide) (takes_of rfl rfl rfl rfl) (a2_cons (e2_var 3) (a2_cons (e2_var 4) a2_nil))) (a2_cons (c_callK0 (ok_support T) hr (by decide) (takes_of rfl rfl rfl rfl) bk_support_0_word_mirrors rfl (k2_cons (e2_var 4) (k2_cons (e2_var 3) k2_nil))) a2_nil))) a2_nil)) (e2_callB (cb_repr hr) T.b_repr bt_repr (a2_cons (e2_lst (a2_cons (e2_var 10) (a2_cons (e2_var 10) a2_nil))) a2_nil)))
      (ss_one (s2_ret e2_bl))
      ss_nil)
      (ss_cons (s2_set (i := 10) sc_law_right.nd rfl (Or.inl rfl) (e2_cmp (op_eqD hr.u64) o_eq (e2_lc rfl sc_law_right.nd (i2_any (e2_var 10)) (blkOk_by (own := [("x", 11)]) (by kernel_rfl)) (by decide) (fun _ _ _ _ _ => (g2_name (i := 11) sc_law_right.nd rfl (Or.inl rfl))) (fun _ _ _ _ _ => (ct_one (c2_cmp (p_notIn hr.u65) o_notIn (e2_var 11) (e2_var 5)))) (fun _ _ _ _ _ => (e2_var 11))) (e2_lst a2_nil)))
      (ss_one (s2_if (c2_cmp (op_neD hr.u64) o_ne (e2_callB (cb_repr hr) T.b_repr bt_repr (a2_cons (e2_lst (a2_cons (c_call (ok_is_part T) hr (by decide) (takes_of rfl rfl rfl rfl) (a2_cons (e2_var 3) (a2_cons (e2_var 4) (a2_cons (e2_var 5) a2_nil)))) (a2_cons (c_callK0 (ok_is_part T) hr (by decide) (takes_of rfl rfl rfl rfl) bk_is_part_0_lot_word_mirrors rfl (k2_cons (e2_var 5) (k2_cons (e2_var 4) (k2_cons (e2_var 3) k2_nil)))) a2_nil))) a2_nil)) (e2_callB (cb_repr hr) T.b_repr bt_repr (a2_cons (e2_lst (a2_cons (e2_var 10) (a2_cons (e2_var 10) a2_nil))) a2_nil)))
      (ss_one (s2_ret e2_bl))
      ss_nil)))))))))))))))))
      (ss_one (s2_ret e2_bl)))⟩
theorem sc_law_tub : FnScope ["script", "turn", "entry", "stirred", "each"] ["script", "turn"] (defScope st_law_tub) := ⟨rfl, rfl, rfl, by decide +kernel, rfl, by decide +kernel, by decide +kernel⟩
theorem ok_law_tub (T : TX P w K mg cMirrors aNUMBERS aONES) : FnOK P w K mg base 1 "_law_tub" "_law_tub" st_law_tub ["script", "turn"] F_law_tub := by
  obtain ⟨f, fd, h1, h2, h3⟩ := T.f_law_tub
  exact ⟨f, fd, h1, h2, h3, h3.binds (ps := ["script", "turn"]) fun _ _ _ _ _ _ us hl => match us, hl with | [_, _], _ => rfl,
    okF (k := 0) (tb := tb_law_tub) h3 sc_law_tub rfl rfl fun cdv A outer s H E hr =>
      (ss_cons (s2_set (i := 2) sc_law_tub.nd rfl (Or.inl rfl) (e2_if (c2_cmp p_lt o_lt (e2_var 1) (e2_callB cb_len T.b_len bt_len (a2_cons (e2_var 0) a2_nil))) (e2_callT cb_int T.b_int bt_int (a2_cons (e2_ix hr.u1 (e2_var 0) (e2_var 1)) a2_nil)) (e2_op p_add o_add (e2_op p_mul o_mul e2_int (e2_var 1)) e2_int)))
      (ss_cons (s2_set (i := 3) sc_law_tub.nd rfl (Or.inl rfl) (e2_op p_add o_add e2_int (e2_op p_mul o_mul e2_int (e2_var 1))))
      (ss_cons (s2_for (passes_of rfl) rfl (i2_any (e2_slc (e2_var 0) o2_none (o2_some e2_int))) (g2_name (i := 4) sc_law_tub.nd rfl (Or.inl rfl))
      (ss_one (s2_set (i := 3) sc_law_tub.nd rfl (Or.inl rfl) (e2_op op_mod o_mod (e2_callT cb_int T.b_int bt_int (a2_cons (e2_op p_add o_add (e2_op p_add o_add (e2_op p_mul o_mul (e2_var 3) e2_int) (e2_op op_mod o_mod (e2_callT cb_int T.b_int bt_int (a2_cons (e2_var 4) a2_nil)) e2_int)) (e2_var 1)) a2_nil)) e2_int))))
      (ss_cons (s2_set (i := 3) sc_law_tub.nd rfl (Or.inl rfl) (e2_op op_mod o_mod (e2_callT cb_int T.b_int bt_int (a2_cons (e2_op p_add o_add (e2_op p_mul o_mul (e2_var 3) e2_int) (e2_op op_mod o_mod (e2_callT cb_int T.b_int bt_int (a2_cons (e2_var 2) a2_nil)) e2_int)) a2_nil)) e2_int))
      (ss_one (s2_ret (e2_lstM (a2_cons (e2_if (c2_cmp p_ge o_ge (e2_callB cb_abs T.b_abs bt_abs (a2_cons (e2_var 2) a2_nil)) (e2_op op_pow o_pow e2_int e2_int)) (e2_callB cb_abs T.b_abs bt_abs (a2_cons (e2_var 2) a2_nil)) e2_int) (a2_cons (e2_var 3) (a2_cons e2_int a2_nil))))))))))⟩
theorem sc_law : FnScope ["script", "three", "turn"] ["script"] (defScope st_law) := ⟨rfl, rfl, rfl, by decide +kernel, rfl, by decide +kernel, by decide +kernel⟩
theorem ok_law (T : TX P w K mg cMirrors aNUMBERS aONES) : FnOK P w K mg base 11 "law" "law" st_law ["script"] F_law := by
  obtain ⟨f, fd, h1, h2, h3⟩ := T.f_law
  exact ⟨f, fd, h1, h2, h3, h3.binds (ps := ["script"]) fun _ _ _ _ _ _ us hl => match us, hl with | [_], _ => rfl,
    okF (k := 10) (tb := tb_law) h3 sc_law rfl rfl fun cdv A outer s H E hr =>
      (ss_cons (s2_set (i := 1) sc_law.nd rfl (Or.inl rfl) (e2_cmeth (cm_Mirrors_read T) (hr.mono (by decide)) (takes_of rfl rfl rfl rfl) (e2_gloE "Mirrors" ⟨_, T.m_Mirrors⟩) (a2_cons (e2_str "abc ab3 bc3") a2_nil)))
      (ss_cons (s2_if (c2_cmp (op_neD hr.u64) o_ne (e2_lst (a2_cons (c_call (ok_parted T) hr (by decide) (takes_of rfl rfl rfl rfl) (a2_cons (e2_var 1) (a2_cons (e2_str "cab") (a2_cons (e2_str "ab") a2_nil)))) (a2_cons (c_call (ok_parted T) hr (by decide) (takes_of rfl rfl rfl rfl) (a2_cons (e2_var 1) (a2_cons (e2_str "abacba") (a2_cons (e2_str "ab") a2_nil)))) (a2_cons (c_call (ok_parted T) hr (by decide) (takes_of rfl rfl rfl rfl) (a2_cons (e2_var 1) (a2_cons (e2_str "cab") (a2_cons (e2_str "") a2_nil)))) (a2_cons (c_call (ok_inner T) hr (by decide) (takes_of rfl rfl rfl rfl) (a2_cons (e2_var 1) (a2_cons (e2_str "a") (a2_cons (e2_str "abc") (a2_cons (e2_str "c") a2_nil))))) (a2_cons (c_call (ok_inner T) hr (by decide) (takes_of rfl rfl rfl rfl) (a2_cons (e2_var 1) (a2_cons (e2_str "ab") (a2_cons (e2_str "abacba") (a2_cons (e2_str "ab") a2_nil))))) a2_nil)))))) (e2_lst (a2_cons (e2_tup (a2_cons (e2_str "c") (a2_cons (e2_str "ab") a2_nil))) (a2_cons (e2_tup (a2_cons (e2_str "abc") (a2_cons (e2_str "aba") a2_nil))) (a2_cons (e2_tup (a2_cons (e2_str "acb") (a2_cons (e2_str "") a2_nil))) (a2_cons (e2_str "b") (a2_cons (e2_str "c") a2_nil)))))))
      (ss_one (s2_ret e2_bl))
      ss_nil)
      (ss_cons (s2_if (c2_cmp (op_neD hr.u64) o_ne (e2_lst (a2_cons (c_call (ok_is_part T) hr (by decide) (takes_of rfl rfl rfl rfl) (a2_cons (e2_var 1) (a2_cons (e2_str "cac") (a2_cons (e2_str "ab") a2_nil)))) (a2_cons (c_call (ok_support T) hr (by decide) (takes_of rfl rfl rfl rfl) (a2_cons (e2_var 1) (a2_cons (e2_str "abcb") a2_nil))) (a2_cons (c_call (ok_support T) hr (by decide) (takes_of rfl rfl rfl rfl) (a2_cons (e2_var 1) (a2_cons (e2_str "abab") a2_nil))) (a2_cons (c_call (ok_support T) hr (by decide) (takes_of rfl rfl rfl rfl) (a2_cons (e2_var 1) (a2_cons (e2_str "") a2_nil))) a2_nil))))) (e2_lst (a2_cons e2_bl (a2_cons (e2_str "abc") (a2_cons (e2_str "ab") (a2_cons (e2_str "") a2_nil))))))
      (ss_one (s2_ret e2_bl))
      ss_nil)
      (ss_one (s2_ret (e2_callB (cb_all rfl) T.b_all bt_all (a2_cons (e2_lc rfl sc_law.nd (i2_range1 T.b_range (a2_cons (e2_callB (cb_max hr rfl) T.b_max bt_max (a2_cons e2_int (a2_cons (e2_callB (cb_min hr rfl) T.b_min bt_min (a2_cons (e2_callB cb_len T.b_len bt_len (a2_cons (e2_var 0) a2_nil)) (a2_cons e2_int a2_nil))) a2_nil))) a2_nil)) (blkOk_by (own := [("turn", 2)]) (by kernel_rfl)) (by decide) (fun _ _ _ _ _ => (g2_name (i := 2) sc_law.nd rfl (Or.inl rfl))) (fun _ _ _ _ _ => ct_nil) (fun _ _ _ _ _ => (c_call (ok_law_right T) hr (by decide) L2.takes0 (a2_cons (c_call (ok_law_tub T) hr (by decide) L2.takes0 (a2_cons (e2_var 0) (a2_cons (e2_var 2) a2_nil))) a2_nil)))) a2_nil)))))))⟩
end
theorem law_mk {l : PySem.W.OpenLaw} {w : World} {K : PySem.W.Frag} {h : Heap} {mg : Str → Option Value} {fa : Addr} {cMirrors : Addr} {aNUMBERS : Addr} {aONES : Addr} (X : K.In h) (G : h.Ns mainGlobals mg) (hfa : mg "law" = some (.ref fa))
    {tMOST_LETTERS : Tok}
    {tLETTERS : Tok}
    {tMOST_WORD : Tok}
    {tPLAIN : Tok}
    {nNUMBERS : Nat}
    {hNUMBERS0 : Int} {tNUMBERS0 : Tok}
    {uNUMBERS0 : Tok}
    {hNUMBERS1 : Int} {tNUMBERS1 : Tok}
    {uNUMBERS1 : Tok}
    {hNUMBERS2 : Int} {tNUMBERS2 : Tok}
    {uNUMBERS2 : Tok}
    {hNUMBERS3 : Int} {tNUMBERS3 : Tok}
    {uNUMBERS3 : Tok}
    {nONES : Nat}
    {hONES0 : Int} {tONES0 : Tok}
    {uONES0 : Addr} {udONES0 : Option Addr} {unONES0 : Nat} {usONES0 : Array (Option Value)}
    {wONES0_0 : Tok}
    {wONES0_1 : Tok}
    {hONES1 : Int} {tONES1 : Tok}
    {uONES1 : Addr} {udONES1 : Option Addr} {unONES1 : Nat} {usONES1 : Array (Option Value)}
    {wONES1_0 : Tok}
    {wONES1_1 : Tok}
    {hONES2 : Int} {tONES2 : Tok}
    {uONES2 : Addr} {udONES2 : Option Addr} {unONES2 : Nat} {usONES2 : Array (Option Value)}
    {wONES2_0 : Tok}
    {wONES2_1 : Tok}
    {hONES3 : Int} {tONES3 : Tok}
    {uONES3 : Addr} {udONES3 : Option Addr} {unONES3 : Nat} {usONES3 : Array (Option Value)}
    {wONES3_0 : Tok}
    {wONES3_1 : Tok}
    {hONES4 : Int} {tONES4 : Tok}
    {uONES4 : Addr} {udONES4 : Option Addr} {unONES4 : Nat} {usONES4 : Array (Option Value)}
    {wONES4_0 : Tok}
    {wONES4_1 : Tok}
    {f0 : Addr} {od0 an0 : Option Addr} {sl0 : Array (Option Value)} {oc0 kV0 dc0 pm0 cd0 ct0 : Value}
    {f1 : Addr} {od1 an1 : Option Addr} {sl1 : Array (Option Value)} {oc1 kV1 dc1 pm1 cd1 ct1 : Value}
    {f2 : Addr} {od2 an2 : Option Addr} {sl2 : Array (Option Value)} {oc2 kV2 dc2 pm2 cd2 ct2 : Value}
    {f3 : Addr} {od3 an3 : Option Addr} {sl3 : Array (Option Value)} {oc3 kV3 dc3 pm3 cd3 ct3 : Value}
    {f4 : Addr} {od4 an4 : Option Addr} {sl4 : Array (Option Value)} {oc4 kV4 dc4 pm4 cd4 ct4 : Value}
    {f5 : Addr} {od5 an5 : Option Addr} {sl5 : Array (Option Value)} {oc5 kV5 dc5 pm5 cd5 ct5 : Value}
    {f6 : Addr} {od6 an6 : Option Addr} {sl6 : Array (Option Value)} {oc6 kV6 dc6 pm6 cd6 ct6 : Value}
    {f7 : Addr} {od7 an7 : Option Addr} {sl7 : Array (Option Value)} {oc7 kV7 dc7 pm7 cd7 ct7 : Value}
    {p7 : Addr} {r7 : List Value}
    {f8 : Addr} {od8 an8 : Option Addr} {sl8 : Array (Option Value)} {oc8 kV8 dc8 pm8 cd8 ct8 : Value}
    {f9 : Addr} {od9 an9 : Option Addr} {sl9 : Array (Option Value)} {oc9 kV9 dc9 pm9 cd9 ct9 : Value}
    {p9 : Addr} {r9 : List Value}
    {f10 : Addr} {od10 an10 : Option Addr} {sl10 : Array (Option Value)} {oc10 kV10 dc10 pm10 cd10 ct10 : Value}
    {f11 : Addr} {od11 an11 : Option Addr} {sl11 : Array (Option Value)} {oc11 kV11 dc11 pm11 cd11 ct11 : Value}
    {f12 : Addr} {od12 an12 : Option Addr} {sl12 : Array (Option Value)} {oc12 kV12 dc12 pm12 cd12 ct12 : Value}
    {f13 : Addr} {od13 an13 : Option Addr} {sl13 : Array (Option Value)} {oc13 kV13 dc13 pm13 cd13 ct13 : Value}
    {f14 : Addr} {od14 an14 : Option Addr} {sl14 : Array (Option Value)} {oc14 kV14 dc14 pm14 cd14 ct14 : Value}
    {f15 : Addr} {od15 an15 : Option Addr} {sl15 : Array (Option Value)} {oc15 kV15 dc15 pm15 cd15 ct15 : Value}
    {f16 : Addr} {od16 an16 : Option Addr} {sl16 : Array (Option Value)} {oc16 kV16 dc16 pm16 cd16 ct16 : Value}
    {f17 : Addr} {od17 an17 : Option Addr} {sl17 : Array (Option Value)} {oc17 kV17 dc17 pm17 cd17 ct17 : Value}
    {f18 : Addr} {od18 an18 : Option Addr} {sl18 : Array (Option Value)} {oc18 kV18 dc18 pm18 cd18 ct18 : Value}
    {f19 : Addr} {od19 an19 : Option Addr} {sl19 : Array (Option Value)} {oc19 kV19 dc19 pm19 cd19 ct19 : Value}
    {f20 : Addr} {od20 an20 : Option Addr} {sl20 : Array (Option Value)} {oc20 kV20 dc20 pm20 cd20 ct20 : Value}
    {f21 : Addr} {od21 an21 : Option Addr} {sl21 : Array (Option Value)} {oc21 kV21 dc21 pm21 cd21 ct21 : Value}
    {f22 : Addr} {od22 an22 : Option Addr} {sl22 : Array (Option Value)} {oc22 kV22 dc22 pm22 cd22 ct22 : Value}
    {f23 : Addr} {od23 an23 : Option Addr} {sl23 : Array (Option Value)} {oc23 kV23 dc23 pm23 cd23 ct23 : Value}
    {f24 : Addr} {od24 an24 : Option Addr} {sl24 : Array (Option Value)} {oc24 kV24 dc24 pm24 cd24 ct24 : Value}
    {f25 : Addr} {od25 an25 : Option Addr} {sl25 : Array (Option Value)} {oc25 kV25 dc25 pm25 cd25 ct25 : Value}
    {f26 : Addr} {od26 an26 : Option Addr} {sl26 : Array (Option Value)} {oc26 kV26 dc26 pm26 cd26 ct26 : Value}
    {f27 : Addr} {od27 an27 : Option Addr} {sl27 : Array (Option Value)} {oc27 kV27 dc27 pm27 cd27 ct27 : Value}
    {f28 : Addr} {od28 an28 : Option Addr} {sl28 : Array (Option Value)} {oc28 kV28 dc28 pm28 cd28 ct28 : Value}
    {f29 : Addr} {od29 an29 : Option Addr} {sl29 : Array (Option Value)} {oc29 kV29 dc29 pm29 cd29 ct29 : Value}
    {f30 : Addr} {od30 an30 : Option Addr} {sl30 : Array (Option Value)} {oc30 kV30 dc30 pm30 cd30 ct30 : Value}
    {f31 : Addr} {od31 an31 : Option Addr} {sl31 : Array (Option Value)} {oc31 kV31 dc31 pm31 cd31 ct31 : Value}
    {f32 : Addr} {od32 an32 : Option Addr} {sl32 : Array (Option Value)} {oc32 kV32 dc32 pm32 cd32 ct32 : Value}
    {f33 : Addr} {od33 an33 : Option Addr} {sl33 : Array (Option Value)} {oc33 kV33 dc33 pm33 cd33 ct33 : Value}
    {f34 : Addr} {od34 an34 : Option Addr} {sl34 : Array (Option Value)} {oc34 kV34 dc34 pm34 cd34 ct34 : Value}
    {f35 : Addr} {od35 an35 : Option Addr} {sl35 : Array (Option Value)} {oc35 kV35 dc35 pm35 cd35 ct35 : Value}
    {f36 : Addr} {od36 an36 : Option Addr} {sl36 : Array (Option Value)} {oc36 kV36 dc36 pm36 cd36 ct36 : Value}
    {f37 : Addr} {od37 an37 : Option Addr} {sl37 : Array (Option Value)} {oc37 kV37 dc37 pm37 cd37 ct37 : Value}
    {f38 : Addr} {od38 an38 : Option Addr} {sl38 : Array (Option Value)} {oc38 kV38 dc38 pm38 cd38 ct38 : Value}
    {f39 : Addr} {od39 an39 : Option Addr} {sl39 : Array (Option Value)} {oc39 kV39 dc39 pm39 cd39 ct39 : Value}
    {f40 : Addr} {od40 an40 : Option Addr} {sl40 : Array (Option Value)} {oc40 kV40 dc40 pm40 cd40 ct40 : Value}
    {f41 : Addr} {od41 an41 : Option Addr} {sl41 : Array (Option Value)} {oc41 kV41 dc41 pm41 cd41 ct41 : Value}
    {f42 : Addr} {od42 an42 : Option Addr} {sl42 : Array (Option Value)} {oc42 kV42 dc42 pm42 cd42 ct42 : Value}
    {f43 : Addr} {od43 an43 : Option Addr} {sl43 : Array (Option Value)} {oc43 kV43 dc43 pm43 cd43 ct43 : Value}
    {f44 : Addr} {od44 an44 : Option Addr} {sl44 : Array (Option Value)} {oc44 kV44 dc44 pm44 cd44 ct44 : Value}
    {f45 : Addr} {od45 an45 : Option Addr} {sl45 : Array (Option Value)} {oc45 kV45 dc45 pm45 cd45 ct45 : Value}
    {f46 : Addr} {od46 an46 : Option Addr} {sl46 : Array (Option Value)} {oc46 kV46 dc46 pm46 cd46 ct46 : Value}
    {f47 : Addr} {od47 an47 : Option Addr} {sl47 : Array (Option Value)} {oc47 kV47 dc47 pm47 cd47 ct47 : Value}
    {f48 : Addr} {od48 an48 : Option Addr} {sl48 : Array (Option Value)} {oc48 kV48 dc48 pm48 cd48 ct48 : Value}
    {f49 : Addr} {od49 an49 : Option Addr} {sl49 : Array (Option Value)} {oc49 kV49 dc49 pm49 cd49 ct49 : Value}
    (bstr : PySem.W.nsIn K mainGlobals "str" = some none)
    (bisinstance : PySem.W.nsIn K mainGlobals "isinstance" = some none)
    (blen : PySem.W.nsIn K mainGlobals "len" = some none)
    (ball : PySem.W.nsIn K mainGlobals "all" = some none)
    (btuple : PySem.W.nsIn K mainGlobals "tuple" = some none)
    (benumerate : PySem.W.nsIn K mainGlobals "enumerate" = some none)
    (bint : PySem.W.nsIn K mainGlobals "int" = some none)
    (bbool : PySem.W.nsIn K mainGlobals "bool" = some none)
    (bzip : PySem.W.nsIn K mainGlobals "zip" = some none)
    (bsorted : PySem.W.nsIn K mainGlobals "sorted" = some none)
    (brange : PySem.W.nsIn K mainGlobals "range" = some none)
    (bsum : PySem.W.nsIn K mainGlobals "sum" = some none)
    (bmin : PySem.W.nsIn K mainGlobals "min" = some none)
    (bmax : PySem.W.nsIn K mainGlobals "max" = some none)
    (brepr : PySem.W.nsIn K mainGlobals "repr" = some none)
    (bdict : PySem.W.nsIn K mainGlobals "dict" = some none)
    (babs : PySem.W.nsIn K mainGlobals "abs" = some none)
    (gMOST_LETTERS : PySem.W.nsIn K mainGlobals "MOST_LETTERS" = some (some (.int 6 tMOST_LETTERS)))
    (gLETTERS : PySem.W.nsIn K mainGlobals "LETTERS" = some (some (.str (nm "abcdefghijklmnopqrstuvwxyz") tLETTERS)))
    (gMOST_WORD : PySem.W.nsIn K mainGlobals "MOST_WORD" = some (some (.int 60 tMOST_WORD)))
    (gPLAIN : PySem.W.nsIn K mainGlobals "PLAIN" = some (some (.int 2 tPLAIN)))
    (mNUMBERS : PySem.W.nsIn K mainGlobals "NUMBERS" = some (some (.ref aNUMBERS)))
    (lNUMBERS : K.lookup aNUMBERS = some ⟨.type "dict", none, .dict #[⟨hNUMBERS0, .str (nm "3") tNUMBERS0, .int 3 uNUMBERS0⟩, ⟨hNUMBERS1, .str (nm "4") tNUMBERS1, .int 4 uNUMBERS1⟩, ⟨hNUMBERS2, .str (nm "6") tNUMBERS2, .int 6 uNUMBERS2⟩, ⟨hNUMBERS3, .str (nm "0") tNUMBERS3, .int 0 uNUMBERS3⟩] nNUMBERS, #[]⟩)
    (sNUMBERS : (aNUMBERS == sysModules) = false)
    (hNUMBERS0h : hNUMBERS0 = keyH w (.inr (nm "3")))
    (hNUMBERS1h : hNUMBERS1 = keyH w (.inr (nm "4")))
    (hNUMBERS2h : hNUMBERS2 = keyH w (.inr (nm "6")))
    (hNUMBERS3h : hNUMBERS3 = keyH w (.inr (nm "0")))
    (mONES : PySem.W.nsIn K mainGlobals "ONES" = some (some (.ref aONES)))
    (lONES : K.lookup aONES = some ⟨.type "dict", none, .dict #[⟨hONES0, .int 2 tONES0, .ref uONES0⟩, ⟨hONES1, .int 3 tONES1, .ref uONES1⟩, ⟨hONES2, .int 4 tONES2, .ref uONES2⟩, ⟨hONES3, .int 6 tONES3, .ref uONES3⟩, ⟨hONES4, .int 0 tONES4, .ref uONES4⟩] nONES, #[]⟩)
    (lONES0 : K.lookup uONES0 = some ⟨.type "tuple", udONES0, .seq #[.int 0 wONES0_0, .int 0 wONES0_1] unONES0, usONES0⟩)
    (lONES1 : K.lookup uONES1 = some ⟨.type "tuple", udONES1, .seq #[.int 1 wONES1_0, .int 1 wONES1_1] unONES1, usONES1⟩)
    (lONES2 : K.lookup uONES2 = some ⟨.type "tuple", udONES2, .seq #[.int 1 wONES2_0, .int 2 wONES2_1] unONES2, usONES2⟩)
    (lONES3 : K.lookup uONES3 = some ⟨.type "tuple", udONES3, .seq #[.int 1 wONES3_0, .int 3 wONES3_1] unONES3, usONES3⟩)
    (lONES4 : K.lookup uONES4 = some ⟨.type "tuple", udONES4, .seq #[.int 2 wONES4_0, .int 2 wONES4_1] unONES4, usONES4⟩)
    (sONES : (aONES == sysModules) = false)
    (hONES0h : hONES0 = keyH w (.inl 2))
    (hONES1h : hONES1 = keyH w (.inl 3))
    (hONES2h : hONES2 = keyH w (.inl 4))
    (hONES3h : hONES3 = keyH w (.inl 6))
    (hONES4h : hONES4 = keyH w (.inl 0))
    (aMirrors : PySem.W.nsIn K mainGlobals "Mirrors" = some (some (.ref cMirrors)))
    (pgMirrors : PySem.W.plainGet K cMirrors Str.empty = true)
    (hdMirrors : PySem.W.hasDictIn K cMirrors = true)
    (poMirrors : PySem.W.plainOver K cMirrors = true)
    (saMirrors : PySem.W.findIn K (.ref cMirrors) "__setattr__" = some (some (.builtin "object.__setattr__")))
    (kcMirrors : PySem.W.keepIn K (.ref cMirrors) = true)
    (naMirrorssize : PySem.W.findIn K (.ref cMirrors) "size" = some none)
    (naMirrorsangles : PySem.W.findIn K (.ref cMirrors) "angles" = some none)
    (is1 : PySem.W.findIn K (.ref cMirrors) "__class__" = some (some (.builtin "object.__class__")))
    (is2 : PySem.W.specialIn K (.builtin "object.__class__") "__get__" = some (some (.builtin "getset_descriptor.__get__")))
    (is3 : PySem.W.takesIn K (.builtin "object.__class__") = some true)
    (is4 : PySem.W.mroIn K cMirrors (.type "object") = some true)
    (is5 : PySem.W.isClsIn K cMirrors = true)
    (is6 : PySem.W.typeIn K (.ref cMirrors) = some (.type "type"))
    (is7int : PySem.W.subIn K (.ref cMirrors) (.type "int") = some false)
    (is7str : PySem.W.subIn K (.ref cMirrors) (.type "str") = some false)
    (is7bool : PySem.W.subIn K (.ref cMirrors) (.type "bool") = some false)
    (is7tuple : PySem.W.subIn K (.ref cMirrors) (.type "tuple") = some false)
    (is7list : PySem.W.subIn K (.ref cMirrors) (.type "list") = some false)
    (is7dict : PySem.W.subIn K (.ref cMirrors) (.type "dict") = some false)
    (is8NoneType : PySem.W.subIn K (.type "NoneType") (.ref cMirrors) = some false)
    (is8bool : PySem.W.subIn K (.type "bool") (.ref cMirrors) = some false)
    (is8int : PySem.W.subIn K (.type "int") (.ref cMirrors) = some false)
    (is8str : PySem.W.subIn K (.type "str") (.ref cMirrors) = some false)
    (is8tuple : PySem.W.subIn K (.type "tuple") (.ref cMirrors) = some false)
    (is8list : PySem.W.subIn K (.type "list") (.ref cMirrors) = some false)
    (is8dict : PySem.W.subIn K (.type "dict") (.ref cMirrors) = some false)
    (a0 : PySem.W.nsIn K mainGlobals "is_angle" = some (some (.ref f0)))
    (l0 : K.lookup f0 = some ⟨oc0, od0, .func (PySem.W.fnOf "is_angle" "is_angle" (defArgs st_is_angle) (defBody st_is_angle) (defScope st_is_angle) .none kV0 dc0 pm0 an0 cd0 ct0), sl0⟩)
    (e0 : PySem.W.codeIn K cd0 "is_angle" = true)
    (k0 : PySem.W.keepIn K (.ref f0) = true)
    (a1 : PySem.W.nsIn K mainGlobals "angles_fault" = some (some (.ref f1)))
    (l1 : K.lookup f1 = some ⟨oc1, od1, .func (PySem.W.fnOf "angles_fault" "angles_fault" (defArgs st_angles_fault) (defBody st_angles_fault) (defScope st_angles_fault) .none kV1 dc1 pm1 an1 cd1 ct1), sl1⟩)
    (e1 : PySem.W.codeIn K cd1 "angles_fault" = true)
    (k1 : PySem.W.keepIn K (.ref f1) = true)
    (a2 : PySem.W.nsIn K mainGlobals "parts_in" = some (some (.ref f2)))
    (l2 : K.lookup f2 = some ⟨oc2, od2, .func (PySem.W.fnOf "parts_in" "parts_in" (defArgs st_parts_in) (defBody st_parts_in) (defScope st_parts_in) .none kV2 dc2 pm2 an2 cd2 ct2), sl2⟩)
    (e2 : PySem.W.codeIn K cd2 "parts_in" = true)
    (k2 : PySem.W.keepIn K (.ref f2) = true)
    (a3 : PySem.W.nsIn K mainGlobals "is_integer" = some (some (.ref f3)))
    (l3 : K.lookup f3 = some ⟨oc3, od3, .func (PySem.W.fnOf "is_integer" "is_integer" (defArgs st_is_integer) (defBody st_is_integer) (defScope st_is_integer) .none kV3 dc3 pm3 an3 cd3 ct3), sl3⟩)
    (e3 : PySem.W.codeIn K cd3 "is_integer" = true)
    (k3 : PySem.W.keepIn K (.ref f3) = true)
    (a4 : PySem.W.nsIn K mainGlobals "is_between" = some (some (.ref f4)))
    (l4 : K.lookup f4 = some ⟨oc4, od4, .func (PySem.W.fnOf "is_between" "is_between" (defArgs st_is_between) (defBody st_is_between) (defScope st_is_between) .none kV4 dc4 pm4 an4 cd4 ct4), sl4⟩)
    (e4 : PySem.W.codeIn K cd4 "is_between" = true)
    (k4 : PySem.W.keepIn K (.ref f4) = true)
    (a5 : PySem.W.nsIn K mainGlobals "check_number" = some (some (.ref f5)))
    (l5 : K.lookup f5 = some ⟨oc5, od5, .func (PySem.W.fnOf "check_number" "check_number" (defArgs st_check_number) (defBody st_check_number) (defScope st_check_number) .none kV5 dc5 pm5 an5 cd5 ct5), sl5⟩)
    (e5 : PySem.W.codeIn K cd5 "check_number" = true)
    (k5 : PySem.W.keepIn K (.ref f5) = true)
    (a6 : PySem.W.findIn K (.ref cMirrors) "__init__" = some (some (.ref f6)))
    (g6 : PySem.W.makesIn K cMirrors = true)
    (t6 : PySem.W.isFn K (.ref f6) = true)
    (l6 : K.lookup f6 = some ⟨oc6, od6, .func (PySem.W.fnOf "__init__" "Mirrors.__init__" (defArgs st_Mirrors_init) (defBody st_Mirrors_init) (defScope st_Mirrors_init) .none kV6 dc6 pm6 an6 cd6 ct6), sl6⟩)
    (e6 : PySem.W.codeIn K cd6 "Mirrors.__init__" = true)
    (k6 : PySem.W.keepIn K (.ref f6) = true)
    (a7 : PySem.W.readsIn K cMirrors (.type "type") = true)
    (g7 : PySem.W.specialIn K (.ref cMirrors) "__getattribute__" = some (some (.builtin "type.__getattribute__")))
    (t7 : PySem.W.findCls K (.ref cMirrors) (.type "type") "read" = some (.get (.builtin "classmethod.__get__") (.ref p7) .none (.ref cMirrors)))
    (r7e : PySem.W.recIn K p7 "classmethod" = some (.ref f7 :: r7))
    (n7 : PySem.W.fnIn K f7 = true)
    (l7 : K.lookup f7 = some ⟨oc7, od7, .func (PySem.W.fnOf "read" "Mirrors.read" (defArgs st_Mirrors_read) (defBody st_Mirrors_read) (defScope st_Mirrors_read) .none kV7 dc7 pm7 an7 cd7 ct7), sl7⟩)
    (e7 : PySem.W.codeIn K cd7 "Mirrors.read" = true)
    (k7 : PySem.W.keepIn K (.ref f7) = true)
    (a8 : PySem.W.nsIn K mainGlobals "check_mirrors" = some (some (.ref f8)))
    (l8 : K.lookup f8 = some ⟨oc8, od8, .func (PySem.W.fnOf "check_mirrors" "check_mirrors" (defArgs st_check_mirrors) (defBody st_check_mirrors) (defScope st_check_mirrors) .none kV8 dc8 pm8 an8 cd8 ct8), sl8⟩)
    (e8 : PySem.W.codeIn K cd8 "check_mirrors" = true)
    (k8 : PySem.W.keepIn K (.ref f8) = true)
    (a9 : PySem.W.findIn K (.ref cMirrors) "letters" = some (some (.ref p9)))
    (g9 : PySem.W.specialIn K (.ref p9) "__get__" = some (some (.builtin "property.__get__")))
    (t9 : PySem.W.takesIn K (.ref p9) = some true)
    (r9e : PySem.W.recIn K p9 "property" = some (.ref f9 :: r9))
    (l9 : K.lookup f9 = some ⟨oc9, od9, .func (PySem.W.fnOf "letters" "Mirrors.letters" (defArgs st_Mirrors_letters) (defBody st_Mirrors_letters) (defScope st_Mirrors_letters) .none kV9 dc9 pm9 an9 cd9 ct9), sl9⟩)
    (e9 : PySem.W.codeIn K cd9 "Mirrors.letters" = true)
    (k9 : PySem.W.keepIn K (.ref f9) = true)
    (a10 : PySem.W.nsIn K mainGlobals "check_lot" = some (some (.ref f10)))
    (l10 : K.lookup f10 = some ⟨oc10, od10, .func (PySem.W.fnOf "check_lot" "check_lot" (defArgs st_check_lot) (defBody st_check_lot) (defScope st_check_lot) .none kV10 dc10 pm10 an10 cd10 ct10), sl10⟩)
    (e10 : PySem.W.codeIn K cd10 "check_lot" = true)
    (k10 : PySem.W.keepIn K (.ref f10) = true)
    (a11 : PySem.W.nsIn K mainGlobals "is_word" = some (some (.ref f11)))
    (l11 : K.lookup f11 = some ⟨oc11, od11, .func (PySem.W.fnOf "is_word" "is_word" (defArgs st_is_word) (defBody st_is_word) (defScope st_is_word) .none kV11 dc11 pm11 an11 cd11 ct11), sl11⟩)
    (e11 : PySem.W.codeIn K cd11 "is_word" = true)
    (k11 : PySem.W.keepIn K (.ref f11) = true)
    (a12 : PySem.W.nsIn K mainGlobals "check_word" = some (some (.ref f12)))
    (l12 : K.lookup f12 = some ⟨oc12, od12, .func (PySem.W.fnOf "check_word" "check_word" (defArgs st_check_word) (defBody st_check_word) (defScope st_check_word) .none kV12 dc12 pm12 an12 cd12 ct12), sl12⟩)
    (e12 : PySem.W.codeIn K cd12 "check_word" = true)
    (k12 : PySem.W.keepIn K (.ref f12) = true)
    (a13 : PySem.W.nsIn K mainGlobals "check_asked" = some (some (.ref f13)))
    (l13 : K.lookup f13 = some ⟨oc13, od13, .func (PySem.W.fnOf "check_asked" "check_asked" (defArgs st_check_asked) (defBody st_check_asked) (defScope st_check_asked) .none kV13 dc13 pm13 an13 cd13 ct13), sl13⟩)
    (e13 : PySem.W.codeIn K cd13 "check_asked" = true)
    (k13 : PySem.W.keepIn K (.ref f13) = true)
    (a14 : PySem.W.nsIn K mainGlobals "number_of" = some (some (.ref f14)))
    (l14 : K.lookup f14 = some ⟨oc14, od14, .func (PySem.W.fnOf "number_of" "number_of" (defArgs st_number_of) (defBody st_number_of) (defScope st_number_of) .none kV14 dc14 pm14 an14 cd14 ct14), sl14⟩)
    (e14 : PySem.W.codeIn K cd14 "number_of" = true)
    (k14 : PySem.W.keepIn K (.ref f14) = true)
    (a15 : PySem.W.nsIn K mainGlobals "weight" = some (some (.ref f15)))
    (l15 : K.lookup f15 = some ⟨oc15, od15, .func (PySem.W.fnOf "weight" "weight" (defArgs st_weight) (defBody st_weight) (defScope st_weight) .none kV15 dc15 pm15 an15 cd15 ct15), sl15⟩)
    (e15 : PySem.W.codeIn K cd15 "weight" = true)
    (k15 : PySem.W.keepIn K (.ref f15) = true)
    (a16 : PySem.W.nsIn K mainGlobals "weights_of" = some (some (.ref f16)))
    (l16 : K.lookup f16 = some ⟨oc16, od16, .func (PySem.W.fnOf "weights_of" "weights_of" (defArgs st_weights_of) (defBody st_weights_of) (defScope st_weights_of) .none kV16 dc16 pm16 an16 cd16 ct16), sl16⟩)
    (e16 : PySem.W.codeIn K cd16 "weights_of" = true)
    (k16 : PySem.W.keepIn K (.ref f16) = true)
    (a17 : PySem.W.nsIn K mainGlobals "sent_by" = some (some (.ref f17)))
    (l17 : K.lookup f17 = some ⟨oc17, od17, .func (PySem.W.fnOf "sent_by" "sent_by" (defArgs st_sent_by) (defBody st_sent_by) (defScope st_sent_by) .none kV17 dc17 pm17 an17 cd17 ct17), sl17⟩)
    (e17 : PySem.W.codeIn K cd17 "sent_by" = true)
    (k17 : PySem.W.keepIn K (.ref f17) = true)
    (a18 : PySem.W.nsIn K mainGlobals "sent" = some (some (.ref f18)))
    (l18 : K.lookup f18 = some ⟨oc18, od18, .func (PySem.W.fnOf "sent" "sent" (defArgs st_sent) (defBody st_sent) (defScope st_sent) .none kV18 dc18 pm18 an18 cd18 ct18), sl18⟩)
    (e18 : PySem.W.codeIn K cd18 "sent" = true)
    (k18 : PySem.W.keepIn K (.ref f18) = true)
    (a19 : PySem.W.nsIn K mainGlobals "single" = some (some (.ref f19)))
    (l19 : K.lookup f19 = some ⟨oc19, od19, .func (PySem.W.fnOf "single" "single" (defArgs st_single) (defBody st_single) (defScope st_single) .none kV19 dc19 pm19 an19 cd19 ct19), sl19⟩)
    (e19 : PySem.W.codeIn K cd19 "single" = true)
    (k19 : PySem.W.keepIn K (.ref f19) = true)
    (a20 : PySem.W.nsIn K mainGlobals "all_sent" = some (some (.ref f20)))
    (l20 : K.lookup f20 = some ⟨oc20, od20, .func (PySem.W.fnOf "all_sent" "all_sent" (defArgs st_all_sent) (defBody st_all_sent) (defScope st_all_sent) .none kV20 dc20 pm20 an20 cd20 ct20), sl20⟩)
    (e20 : PySem.W.codeIn K cd20 "all_sent" = true)
    (k20 : PySem.W.keepIn K (.ref f20) = true)
    (a21 : PySem.W.nsIn K mainGlobals "is_below" = some (some (.ref f21)))
    (l21 : K.lookup f21 = some ⟨oc21, od21, .func (PySem.W.fnOf "is_below" "is_below" (defArgs st_is_below) (defBody st_is_below) (defScope st_is_below) .none kV21 dc21 pm21 an21 cd21 ct21), sl21⟩)
    (e21 : PySem.W.codeIn K cd21 "is_below" = true)
    (k21 : PySem.W.keepIn K (.ref f21) = true)
    (a22 : PySem.W.nsIn K mainGlobals "falls" = some (some (.ref f22)))
    (l22 : K.lookup f22 = some ⟨oc22, od22, .func (PySem.W.fnOf "falls" "falls" (defArgs st_falls) (defBody st_falls) (defScope st_falls) .none kV22 dc22 pm22 an22 cd22 ct22), sl22⟩)
    (e22 : PySem.W.codeIn K cd22 "falls" = true)
    (k22 : PySem.W.keepIn K (.ref f22) = true)
    (a23 : PySem.W.nsIn K mainGlobals "first_fall" = some (some (.ref f23)))
    (l23 : K.lookup f23 = some ⟨oc23, od23, .func (PySem.W.fnOf "first_fall" "first_fall" (defArgs st_first_fall) (defBody st_first_fall) (defScope st_first_fall) .none kV23 dc23 pm23 an23 cd23 ct23), sl23⟩)
    (e23 : PySem.W.codeIn K cd23 "first_fall" = true)
    (k23 : PySem.W.keepIn K (.ref f23) = true)
    (a24 : PySem.W.nsIn K mainGlobals "times_letter" = some (some (.ref f24)))
    (l24 : K.lookup f24 = some ⟨oc24, od24, .func (PySem.W.fnOf "times_letter" "times_letter" (defArgs st_times_letter) (defBody st_times_letter) (defScope st_times_letter) .none kV24 dc24 pm24 an24 cd24 ct24), sl24⟩)
    (e24 : PySem.W.codeIn K cd24 "times_letter" = true)
    (k24 : PySem.W.keepIn K (.ref f24) = true)
    (a25 : PySem.W.nsIn K mainGlobals "words_from" = some (some (.ref f25)))
    (l25 : K.lookup f25 = some ⟨oc25, od25, .func (PySem.W.fnOf "words_from" "words_from" (defArgs st_words_from) (defBody st_words_from) (defScope st_words_from) .none kV25 dc25 pm25 an25 cd25 ct25), sl25⟩)
    (e25 : PySem.W.codeIn K cd25 "words_from" = true)
    (k25 : PySem.W.keepIn K (.ref f25) = true)
    (a26 : PySem.W.nsIn K mainGlobals "first_of" = some (some (.ref f26)))
    (l26 : K.lookup f26 = some ⟨oc26, od26, .func (PySem.W.fnOf "first_of" "first_of" (defArgs st_first_of) (defBody st_first_of) (defScope st_first_of) .none kV26 dc26 pm26 an26 cd26 ct26), sl26⟩)
    (e26 : PySem.W.codeIn K cd26 "first_of" = true)
    (k26 : PySem.W.keepIn K (.ref f26) = true)
    (a27 : PySem.W.nsIn K mainGlobals "cut_off" = some (some (.ref f27)))
    (l27 : K.lookup f27 = some ⟨oc27, od27, .func (PySem.W.fnOf "cut_off" "cut_off" (defArgs st_cut_off) (defBody st_cut_off) (defScope st_cut_off) .none kV27 dc27 pm27 an27 cd27 ct27), sl27⟩)
    (e27 : PySem.W.codeIn K cd27 "cut_off" = true)
    (k27 : PySem.W.keepIn K (.ref f27) = true)
    (a28 : PySem.W.nsIn K mainGlobals "both_cut" = some (some (.ref f28)))
    (l28 : K.lookup f28 = some ⟨oc28, od28, .func (PySem.W.fnOf "both_cut" "both_cut" (defArgs st_both_cut) (defBody st_both_cut) (defScope st_both_cut) .none kV28 dc28 pm28 an28 cd28 ct28), sl28⟩)
    (e28 : PySem.W.codeIn K cd28 "both_cut" = true)
    (k28 : PySem.W.keepIn K (.ref f28) = true)
    (a29 : PySem.W.nsIn K mainGlobals "inner" = some (some (.ref f29)))
    (l29 : K.lookup f29 = some ⟨oc29, od29, .func (PySem.W.fnOf "inner" "inner" (defArgs st_inner) (defBody st_inner) (defScope st_inner) .none kV29 dc29 pm29 an29 cd29 ct29), sl29⟩)
    (e29 : PySem.W.codeIn K cd29 "inner" = true)
    (k29 : PySem.W.keepIn K (.ref f29) = true)
    (a30 : PySem.W.nsIn K mainGlobals "parted" = some (some (.ref f30)))
    (l30 : K.lookup f30 = some ⟨oc30, od30, .func (PySem.W.fnOf "parted" "parted" (defArgs st_parted) (defBody st_parted) (defScope st_parted) .none kV30 dc30 pm30 an30 cd30 ct30), sl30⟩)
    (e30 : PySem.W.codeIn K cd30 "parted" = true)
    (k30 : PySem.W.keepIn K (.ref f30) = true)
    (a31 : PySem.W.nsIn K mainGlobals "support_of" = some (some (.ref f31)))
    (l31 : K.lookup f31 = some ⟨oc31, od31, .func (PySem.W.fnOf "support_of" "support_of" (defArgs st_support_of) (defBody st_support_of) (defScope st_support_of) .none kV31 dc31 pm31 an31 cd31 ct31), sl31⟩)
    (e31 : PySem.W.codeIn K cd31 "support_of" = true)
    (k31 : PySem.W.keepIn K (.ref f31) = true)
    (a32 : PySem.W.nsIn K mainGlobals "support" = some (some (.ref f32)))
    (l32 : K.lookup f32 = some ⟨oc32, od32, .func (PySem.W.fnOf "support" "support" (defArgs st_support) (defBody st_support) (defScope st_support) .none kV32 dc32 pm32 an32 cd32 ct32), sl32⟩)
    (e32 : PySem.W.codeIn K cd32 "support" = true)
    (k32 : PySem.W.keepIn K (.ref f32) = true)
    (a33 : PySem.W.nsIn K mainGlobals "is_part" = some (some (.ref f33)))
    (l33 : K.lookup f33 = some ⟨oc33, od33, .func (PySem.W.fnOf "is_part" "is_part" (defArgs st_is_part) (defBody st_is_part) (defScope st_is_part) .none kV33 dc33 pm33 an33 cd33 ct33), sl33⟩)
    (e33 : PySem.W.codeIn K cd33 "is_part" = true)
    (k33 : PySem.W.keepIn K (.ref f33) = true)
    (a34 : PySem.W.nsIn K mainGlobals "_law_sip" = some (some (.ref f34)))
    (l34 : K.lookup f34 = some ⟨oc34, od34, .func (PySem.W.fnOf "_law_sip" "_law_sip" (defArgs st_law_sip) (defBody st_law_sip) (defScope st_law_sip) .none kV34 dc34 pm34 an34 cd34 ct34), sl34⟩)
    (e34 : PySem.W.codeIn K cd34 "_law_sip" = true)
    (k34 : PySem.W.keepIn K (.ref f34) = true)
    (a35 : PySem.W.nsIn K mainGlobals "_law_pick" = some (some (.ref f35)))
    (l35 : K.lookup f35 = some ⟨oc35, od35, .func (PySem.W.fnOf "_law_pick" "_law_pick" (defArgs st_law_pick) (defBody st_law_pick) (defScope st_law_pick) .none kV35 dc35 pm35 an35 cd35 ct35), sl35⟩)
    (e35 : PySem.W.codeIn K cd35 "_law_pick" = true)
    (k35 : PySem.W.keepIn K (.ref f35) = true)
    (a36 : PySem.W.nsIn K mainGlobals "_law_plan" = some (some (.ref f36)))
    (l36 : K.lookup f36 = some ⟨oc36, od36, .func (PySem.W.fnOf "_law_plan" "_law_plan" (defArgs st_law_plan) (defBody st_law_plan) (defScope st_law_plan) .none kV36 dc36 pm36 an36 cd36 ct36), sl36⟩)
    (e36 : PySem.W.codeIn K cd36 "_law_plan" = true)
    (k36 : PySem.W.keepIn K (.ref f36) = true)
    (a37 : PySem.W.nsIn K mainGlobals "_law_angles" = some (some (.ref f37)))
    (l37 : K.lookup f37 = some ⟨oc37, od37, .func (PySem.W.fnOf "_law_angles" "_law_angles" (defArgs st_law_angles) (defBody st_law_angles) (defScope st_law_angles) .none kV37 dc37 pm37 an37 cd37 ct37), sl37⟩)
    (e37 : PySem.W.codeIn K cd37 "_law_angles" = true)
    (k37 : PySem.W.keepIn K (.ref f37) = true)
    (a38 : PySem.W.nsIn K mainGlobals "_law_made" = some (some (.ref f38)))
    (l38 : K.lookup f38 = some ⟨oc38, od38, .func (PySem.W.fnOf "_law_made" "_law_made" (defArgs st_law_made) (defBody st_law_made) (defScope st_law_made) .none kV38 dc38 pm38 an38 cd38 ct38), sl38⟩)
    (e38 : PySem.W.codeIn K cd38 "_law_made" = true)
    (k38 : PySem.W.keepIn K (.ref f38) = true)
    (a39 : PySem.W.nsIn K mainGlobals "_law_word" = some (some (.ref f39)))
    (l39 : K.lookup f39 = some ⟨oc39, od39, .func (PySem.W.fnOf "_law_word" "_law_word" (defArgs st_law_word) (defBody st_law_word) (defScope st_law_word) .none kV39 dc39 pm39 an39 cd39 ct39), sl39⟩)
    (e39 : PySem.W.codeIn K cd39 "_law_word" = true)
    (k39 : PySem.W.keepIn K (.ref f39) = true)
    (a40 : PySem.W.nsIn K mainGlobals "_law_lot" = some (some (.ref f40)))
    (l40 : K.lookup f40 = some ⟨oc40, od40, .func (PySem.W.fnOf "_law_lot" "_law_lot" (defArgs st_law_lot) (defBody st_law_lot) (defScope st_law_lot) .none kV40 dc40 pm40 an40 cd40 ct40), sl40⟩)
    (e40 : PySem.W.codeIn K cd40 "_law_lot" = true)
    (k40 : PySem.W.keepIn K (.ref f40) = true)
    (a41 : PySem.W.nsIn K mainGlobals "_law_m" = some (some (.ref f41)))
    (l41 : K.lookup f41 = some ⟨oc41, od41, .func (PySem.W.fnOf "_law_m" "_law_m" (defArgs st_law_m) (defBody st_law_m) (defScope st_law_m) .none kV41 dc41 pm41 an41 cd41 ct41), sl41⟩)
    (e41 : PySem.W.codeIn K cd41 "_law_m" = true)
    (k41 : PySem.W.keepIn K (.ref f41) = true)
    (a42 : PySem.W.nsIn K mainGlobals "_law_turns" = some (some (.ref f42)))
    (l42 : K.lookup f42 = some ⟨oc42, od42, .func (PySem.W.fnOf "_law_turns" "_law_turns" (defArgs st_law_turns) (defBody st_law_turns) (defScope st_law_turns) .none kV42 dc42 pm42 an42 cd42 ct42), sl42⟩)
    (e42 : PySem.W.codeIn K cd42 "_law_turns" = true)
    (k42 : PySem.W.keepIn K (.ref f42) = true)
    (a43 : PySem.W.nsIn K mainGlobals "_law_turned_all" = some (some (.ref f43)))
    (l43 : K.lookup f43 = some ⟨oc43, od43, .func (PySem.W.fnOf "_law_turned_all" "_law_turned_all" (defArgs st_law_turned_all) (defBody st_law_turned_all) (defScope st_law_turned_all) .none kV43 dc43 pm43 an43 cd43 ct43), sl43⟩)
    (e43 : PySem.W.codeIn K cd43 "_law_turned_all" = true)
    (k43 : PySem.W.keepIn K (.ref f43) = true)
    (a44 : PySem.W.nsIn K mainGlobals "_law_strikes" = some (some (.ref f44)))
    (l44 : K.lookup f44 = some ⟨oc44, od44, .func (PySem.W.fnOf "_law_strikes" "_law_strikes" (defArgs st_law_strikes) (defBody st_law_strikes) (defScope st_law_strikes) .none kV44 dc44 pm44 an44 cd44 ct44), sl44⟩)
    (e44 : PySem.W.codeIn K cd44 "_law_strikes" = true)
    (k44 : PySem.W.keepIn K (.ref f44) = true)
    (a45 : PySem.W.nsIn K mainGlobals "_law_class" = some (some (.ref f45)))
    (l45 : K.lookup f45 = some ⟨oc45, od45, .func (PySem.W.fnOf "_law_class" "_law_class" (defArgs st_law_class) (defBody st_law_class) (defScope st_law_class) .none kV45 dc45 pm45 an45 cd45 ct45), sl45⟩)
    (e45 : PySem.W.codeIn K cd45 "_law_class" = true)
    (k45 : PySem.W.keepIn K (.ref f45) = true)
    (a46 : PySem.W.nsIn K mainGlobals "_law_shortest_of" = some (some (.ref f46)))
    (l46 : K.lookup f46 = some ⟨oc46, od46, .func (PySem.W.fnOf "_law_shortest_of" "_law_shortest_of" (defArgs st_law_shortest_of) (defBody st_law_shortest_of) (defScope st_law_shortest_of) .none kV46 dc46 pm46 an46 cd46 ct46), sl46⟩)
    (e46 : PySem.W.codeIn K cd46 "_law_shortest_of" = true)
    (k46 : PySem.W.keepIn K (.ref f46) = true)
    (a47 : PySem.W.nsIn K mainGlobals "_law_right" = some (some (.ref f47)))
    (l47 : K.lookup f47 = some ⟨oc47, od47, .func (PySem.W.fnOf "_law_right" "_law_right" (defArgs st_law_right) (defBody st_law_right) (defScope st_law_right) .none kV47 dc47 pm47 an47 cd47 ct47), sl47⟩)
    (e47 : PySem.W.codeIn K cd47 "_law_right" = true)
    (k47 : PySem.W.keepIn K (.ref f47) = true)
    (a48 : PySem.W.nsIn K mainGlobals "_law_tub" = some (some (.ref f48)))
    (l48 : K.lookup f48 = some ⟨oc48, od48, .func (PySem.W.fnOf "_law_tub" "_law_tub" (defArgs st_law_tub) (defBody st_law_tub) (defScope st_law_tub) .none kV48 dc48 pm48 an48 cd48 ct48), sl48⟩)
    (e48 : PySem.W.codeIn K cd48 "_law_tub" = true)
    (k48 : PySem.W.keepIn K (.ref f48) = true)
    (a49 : PySem.W.nsIn K mainGlobals "law" = some (some (.ref f49)))
    (l49 : K.lookup f49 = some ⟨oc49, od49, .func (PySem.W.fnOf "law" "law" (defArgs st_law) (defBody st_law) (defScope st_law) .none kV49 dc49 pm49 an49 cd49 ct49), sl49⟩)
    (e49 : PySem.W.codeIn K cd49 "law" = true)
    (k49 : PySem.W.keepIn K (.ref f49) = true)
    : LawD l.prog w K mg 11 fa F_law := by
  have T : TX l.prog w K mg cMirrors aNUMBERS aONES := {
    b_str := PySem.W.mg_none_of X G bstr
    b_isinstance := PySem.W.mg_none_of X G bisinstance
    b_len := PySem.W.mg_none_of X G blen
    b_all := PySem.W.mg_none_of X G ball
    b_tuple := PySem.W.mg_none_of X G btuple
    b_enumerate := PySem.W.mg_none_of X G benumerate
    b_int := PySem.W.mg_none_of X G bint
    b_bool := PySem.W.mg_none_of X G bbool
    b_zip := PySem.W.mg_none_of X G bzip
    b_sorted := PySem.W.mg_none_of X G bsorted
    b_range := PySem.W.mg_none_of X G brange
    b_sum := PySem.W.mg_none_of X G bsum
    b_min := PySem.W.mg_none_of X G bmin
    b_max := PySem.W.mg_none_of X G bmax
    b_repr := PySem.W.mg_none_of X G brepr
    b_dict := PySem.W.mg_none_of X G bdict
    b_abs := PySem.W.mg_none_of X G babs
    g_MOST_LETTERS := ⟨_, PySem.W.mg_of X G gMOST_LETTERS⟩
    g_LETTERS := ⟨_, PySem.W.mg_of X G gLETTERS⟩
    g_MOST_WORD := ⟨_, PySem.W.mg_of X G gMOST_WORD⟩
    g_PLAIN := ⟨_, PySem.W.mg_of X G gPLAIN⟩
    m_NUMBERS := PySem.W.mg_of X G mNUMBERS
    d_NUMBERS := ⟨_, _, lNUMBERS, sNUMBERS, .cons (kent_s "3" hNUMBERS0h) (.cons (kent_s "4" hNUMBERS1h) (.cons (kent_s "6" hNUMBERS2h) (.cons (kent_s "0" hNUMBERS3h) (.nil)))), by decide, fun mg W => ⟨[.int 3, .int 4, .int 6, .int 0], (DRs.cons (by simp only [DR]) (DRs.cons (by simp only [DR]) (DRs.cons (by simp only [DR]) (DRs.cons (by simp only [DR]) DRs.nil)))), (.cons ⟨_, rfl⟩ (.cons ⟨_, rfl⟩ (.cons ⟨_, rfl⟩ (.cons ⟨_, rfl⟩ .nil))))⟩⟩
    m_ONES := PySem.W.mg_of X G mONES
    d_ONES := ⟨_, _, lONES, sONES, .cons (kent_i 2 hONES0h) (.cons (kent_i 3 hONES1h) (.cons (kent_i 4 hONES2h) (.cons (kent_i 6 hONES3h) (.cons (kent_i 0 hONES4h) (.nil))))), by decide, fun mg W => ⟨[.ref uONES0, .ref uONES1, .ref uONES2, .ref uONES3, .ref uONES4], (DRs.cons (ktup2 lONES0) (DRs.cons (ktup2 lONES1) (DRs.cons (ktup2 lONES2) (DRs.cons (ktup2 lONES3) (DRs.cons (ktup2 lONES4) DRs.nil))))), (.cons rfl (.cons rfl (.cons rfl (.cons rfl (.cons rfl .nil)))))⟩⟩
    co_Mirrors := ⟨PySem.W.mg_of X G aMirrors, ⟨pgMirrors, hdMirrors, poMirrors, saMirrors⟩, kcMirrors⟩
    m_Mirrors := PySem.W.mg_of X G aMirrors
    na_Mirrors_size := naMirrorssize
    na_Mirrors_angles := naMirrorsangles
    is1 := is1
    is2 := is2
    is3 := is3
    is4 := is4
    is5 := is5
    is6 := is6
    is7 := by simp only [List.forall_mem_cons]; exact ⟨is7int, is7str, is7bool, is7tuple, is7list, is7dict, fun _ z => absurd z (by simp)⟩
    is8 := by simp only [List.forall_mem_cons]; exact ⟨is8NoneType, is8bool, is8int, is8str, is8tuple, is8list, is8dict, fun _ z => absurd z (by simp)⟩
    f_is_angle := ⟨f0, _, PySem.W.mg_of X G a0, k0, fun_mk (st := st_is_angle) l0 e0 k0⟩
    f_angles_fault := ⟨f1, _, PySem.W.mg_of X G a1, k1, fun_mk (st := st_angles_fault) l1 e1 k1⟩
    f_parts_in := ⟨f2, _, PySem.W.mg_of X G a2, k2, fun_mk (st := st_parts_in) l2 e2 k2⟩
    f_is_integer := ⟨f3, _, PySem.W.mg_of X G a3, k3, fun_mk (st := st_is_integer) l3 e3 k3⟩
    f_is_between := ⟨f4, _, PySem.W.mg_of X G a4, k4, fun_mk (st := st_is_between) l4 e4 k4⟩
    f_check_number := ⟨f5, _, PySem.W.mg_of X G a5, k5, fun_mk (st := st_check_number) l5 e5 k5⟩
    f_Mirrors_init := ⟨f6, _, ⟨g6, a6, t6, kcMirrors⟩, fun_mk (st := st_Mirrors_init) l6 e6 k6⟩
    f_Mirrors_read := ⟨.type "type", p7, f7, _, ⟨a7, g7⟩, ⟨t7, ⟨r7, r7e⟩, n7⟩, fun_mk (st := st_Mirrors_read) l7 e7 k7⟩
    f_check_mirrors := ⟨f8, _, PySem.W.mg_of X G a8, k8, fun_mk (st := st_check_mirrors) l8 e8 k8⟩
    f_Mirrors_letters := ⟨p9, f9, _, ⟨a9, g9, t9, r9, r9e⟩, fun_mk (st := st_Mirrors_letters) l9 e9 k9⟩
    f_check_lot := ⟨f10, _, PySem.W.mg_of X G a10, k10, fun_mk (st := st_check_lot) l10 e10 k10⟩
    f_is_word := ⟨f11, _, PySem.W.mg_of X G a11, k11, fun_mk (st := st_is_word) l11 e11 k11⟩
    f_check_word := ⟨f12, _, PySem.W.mg_of X G a12, k12, fun_mk (st := st_check_word) l12 e12 k12⟩
    f_check_asked := ⟨f13, _, PySem.W.mg_of X G a13, k13, fun_mk (st := st_check_asked) l13 e13 k13⟩
    f_number_of := ⟨f14, _, PySem.W.mg_of X G a14, k14, fun_mk (st := st_number_of) l14 e14 k14⟩
    f_weight := ⟨f15, _, PySem.W.mg_of X G a15, k15, fun_mk (st := st_weight) l15 e15 k15⟩
    f_weights_of := ⟨f16, _, PySem.W.mg_of X G a16, k16, fun_mk (st := st_weights_of) l16 e16 k16⟩
    f_sent_by := ⟨f17, _, PySem.W.mg_of X G a17, k17, fun_mk (st := st_sent_by) l17 e17 k17⟩
    f_sent := ⟨f18, _, PySem.W.mg_of X G a18, k18, fun_mk (st := st_sent) l18 e18 k18⟩
    f_single := ⟨f19, _, PySem.W.mg_of X G a19, k19, fun_mk (st := st_single) l19 e19 k19⟩
    f_all_sent := ⟨f20, _, PySem.W.mg_of X G a20, k20, fun_mk (st := st_all_sent) l20 e20 k20⟩
    f_is_below := ⟨f21, _, PySem.W.mg_of X G a21, k21, fun_mk (st := st_is_below) l21 e21 k21⟩
    f_falls := ⟨f22, _, PySem.W.mg_of X G a22, k22, fun_mk (st := st_falls) l22 e22 k22⟩
    f_first_fall := ⟨f23, _, PySem.W.mg_of X G a23, k23, fun_mk (st := st_first_fall) l23 e23 k23⟩
    f_times_letter := ⟨f24, _, PySem.W.mg_of X G a24, k24, fun_mk (st := st_times_letter) l24 e24 k24⟩
    f_words_from := ⟨f25, _, PySem.W.mg_of X G a25, k25, fun_mk (st := st_words_from) l25 e25 k25⟩
    f_first_of := ⟨f26, _, PySem.W.mg_of X G a26, k26, fun_mk (st := st_first_of) l26 e26 k26⟩
    f_cut_off := ⟨f27, _, PySem.W.mg_of X G a27, k27, fun_mk (st := st_cut_off) l27 e27 k27⟩
    f_both_cut := ⟨f28, _, PySem.W.mg_of X G a28, k28, fun_mk (st := st_both_cut) l28 e28 k28⟩
    f_inner := ⟨f29, _, PySem.W.mg_of X G a29, k29, fun_mk (st := st_inner) l29 e29 k29⟩
    f_parted := ⟨f30, _, PySem.W.mg_of X G a30, k30, fun_mk (st := st_parted) l30 e30 k30⟩
    f_support_of := ⟨f31, _, PySem.W.mg_of X G a31, k31, fun_mk (st := st_support_of) l31 e31 k31⟩
    f_support := ⟨f32, _, PySem.W.mg_of X G a32, k32, fun_mk (st := st_support) l32 e32 k32⟩
    f_is_part := ⟨f33, _, PySem.W.mg_of X G a33, k33, fun_mk (st := st_is_part) l33 e33 k33⟩
    f_law_sip := ⟨f34, _, PySem.W.mg_of X G a34, k34, fun_mk (st := st_law_sip) l34 e34 k34⟩
    f_law_pick := ⟨f35, _, PySem.W.mg_of X G a35, k35, fun_mk (st := st_law_pick) l35 e35 k35⟩
    f_law_plan := ⟨f36, _, PySem.W.mg_of X G a36, k36, fun_mk (st := st_law_plan) l36 e36 k36⟩
    f_law_angles := ⟨f37, _, PySem.W.mg_of X G a37, k37, fun_mk (st := st_law_angles) l37 e37 k37⟩
    f_law_made := ⟨f38, _, PySem.W.mg_of X G a38, k38, fun_mk (st := st_law_made) l38 e38 k38⟩
    f_law_word := ⟨f39, _, PySem.W.mg_of X G a39, k39, fun_mk (st := st_law_word) l39 e39 k39⟩
    f_law_lot := ⟨f40, _, PySem.W.mg_of X G a40, k40, fun_mk (st := st_law_lot) l40 e40 k40⟩
    f_law_m := ⟨f41, _, PySem.W.mg_of X G a41, k41, fun_mk (st := st_law_m) l41 e41 k41⟩
    f_law_turns := ⟨f42, _, PySem.W.mg_of X G a42, k42, fun_mk (st := st_law_turns) l42 e42 k42⟩
    f_law_turned_all := ⟨f43, _, PySem.W.mg_of X G a43, k43, fun_mk (st := st_law_turned_all) l43 e43 k43⟩
    f_law_strikes := ⟨f44, _, PySem.W.mg_of X G a44, k44, fun_mk (st := st_law_strikes) l44 e44 k44⟩
    f_law_class := ⟨f45, _, PySem.W.mg_of X G a45, k45, fun_mk (st := st_law_class) l45 e45 k45⟩
    f_law_shortest_of := ⟨f46, _, PySem.W.mg_of X G a46, k46, fun_mk (st := st_law_shortest_of) l46 e46 k46⟩
    f_law_right := ⟨f47, _, PySem.W.mg_of X G a47, k47, fun_mk (st := st_law_right) l47 e47 k47⟩
    f_law_tub := ⟨f48, _, PySem.W.mg_of X G a48, k48, fun_mk (st := st_law_tub) l48 e48 k48⟩
    f_law := ⟨f49, _, PySem.W.mg_of X G a49, k49, fun_mk (st := st_law) l49 e49 k49⟩
  }
  exact LawD.of (fun base => ok_law T) hfa
end K21
set_option Elab.async false
set_option linter.all false
set_option maxRecDepth 100000
set_option maxHeartbeats 1000000
namespace K21
open Dn Br Cox
section
variable {n : Nat} {A : List Ang} {m : Mu}
theorem ltP_ss (x y : Cs) : ltP (.str x) (.str y) = ltC x y := by
  unfold ltP
  simp only [D.py]
  rw [PySem.W.dataLt_str, toS_toList, toS_toList]
  rfl
/-- two texts in order -/
theorem sort2 (x y : Cs) : sortL [.str x, .str y] = if ltC y x then [.str y, .str x] else [.str x, .str y] := by
  have e : sortL [.str x, .str y] = if (!ltP (.str y) (.str x)) = true then [.str x, .str y] else [.str y, .str x] := by
    simp [sortL, List.mergeSort, List.merge]
  rw [e, ltP_ss]
  cases ltC y x <;> rfl
theorem eqB_ll {a b : Cs} {c d : Cs} (ha : a.all (· < 1114112) = true) (hb : b.all (· < 1114112) = true) (hc : c.all (· < 1114112) = true) (hd : d.all (· < 1114112) = true) :
    eqB m (.lst [.str a, .str b]) (.lst [.str c, .str d]) = some (a == c && b == d) := by
  unfold eqB
  simp [ha, hb, hc, hd, D.pd, D.pds, D.eq, D.eqs]
theorem lc_ok {i : Nat} (h : i < 26) : (lc i).all (· < 1114112) = true := by simp [lc]; omega
theorem lc_lt (i j : Nat) : ltC (lc i) (lc j) = decide (i < j) := by
  unfold ltC lc
  rw [decide_eq_decide]
  simp [List.cons_lt_cons_iff]
theorem lc_beq (i j : Nat) : (lc i == lc j) = decide (i = j) := by
  rw [Bool.eq_iff_iff]
  simp [lc]
theorem sorted_lc {x y : Nat} (hx : x < 26) (hy : y < 26) : sorted2 [.lst [Lt1 x, Lt1 y]] m = .ok (.lst [Lt1 (min x y), Lt1 (max x y)]) m := by
  have h1 := lc_ok hx
  have h2 := lc_ok hy
  have e : sorted2 [.lst [Lt1 x, Lt1 y]] m = .ok (.lst (sortL [Lt1 x, Lt1 y])) m := by
    simp [sorted2, sortedF, D.pds, D.pd, h1, h2, alikeB, PySem.W.alike, D.py, sortOk]
  rw [e, sort2, lc_lt]
  by_cases h : y < x
  · simp [h, Nat.min_eq_right (Nat.le_of_lt h), Nat.max_eq_left (Nat.le_of_lt h)]
  · simp [h, Nat.min_eq_left (Nat.le_of_not_lt h), Nat.max_eq_right (Nat.le_of_not_lt h)]
def loop_number : List D → Dl → Mu → Ro := for2 (tupG 3 (gcons2 (name2 3) (gcons2 (name2 4) (gcons2 (name2 5) gnil2))))
            (if2 (bool2 (op2 eqD (on2 sorted2 (cons2 (lst2 (cons2 (var2 1) (cons2 (var2 2) nil2))) nil2)) (lst2 (cons2 (var2 3) (cons2 (var2 4) nil2)))))
              (ret2 (var2 5)) nop2)
theorem find_number (G : ∀ a ∈ A, a.1 < 26 ∧ a.2.1 < 26) {x y : Nat} (hx : x < 26) (hy : y < 26) (M : D) : ∀ (a b c : Option D), match A.find? (fun a => a.1 == min x y && a.2.1 == max x y) with
    | some q => loop_number (A.map angD) [some M, some (Lt1 x), some (Lt1 y), a, b, c] m = .ret (.int q.2.2) m
    | none => ∃ δ, loop_number (A.map angD) [some M, some (Lt1 x), some (Lt1 y), a, b, c] m = .next δ m := by
  induction A with
  | nil => intro a b c; exact ⟨_, rfl⟩
  | cons q A ih =>
    intro a b c
    obtain ⟨h1, h2⟩ := G q List.mem_cons_self
    have h3 : min x y < 26 := by omega
    have h4 : max x y < 26 := by omega
    have st : loop_number ((q :: A).map angD) [some M, some (Lt1 x), some (Lt1 y), a, b, c] m = if (decide (min x y = q.1) && decide (max x y = q.2.1)) = true then .ret (.int q.2.2) m else
        loop_number (A.map angD) [some M, some (Lt1 x), some (Lt1 y), some (Lt1 q.1), some (Lt1 q.2.1), some (.int q.2.2)] m := by
      rw [List.map_cons]
      unfold loop_number
      rw [for2]
      simp only [angD, tupG_ap, gcons2_ap, gnil2_ap, name2_ap, if2_ap, bool2_ap, op2_ap, on2_ap, cons2_ap, nil2_ap, lst2_ap, var2_ap, ret2_ap, nop2_ap, Rs.nx_ok, Rs.bind_ok, Rs.thn_ok, List.length_cons, List.length_nil, List.set_cons_zero, List.set_cons_succ, List.getElem?_cons_zero, List.getElem?_cons_succ, if_pos, eqD_k, SZ_val,
        show (0 + 1 + 1 + 1 = 3) = True from by simp, show (0 + 1 + 1 ≤ 16777216) = True from by simp, sorted_lc hx hy, eqB_ll (lc_ok h3) (lc_ok h4) (lc_ok h1) (lc_ok h2), lc_beq, bOk_some, boolD_b]
      generalize decide (min x y = q.1) = u
      generalize decide (max x y = q.2.1) = v
      cases u <;> cases v <;> rfl
    have e : (q.1 == min x y && q.2.1 == max x y) = (decide (min x y = q.1) && decide (max x y = q.2.1)) := by
      rw [Bool.eq_iff_iff]
      simp only [Bool.and_eq_true, beq_iff_eq, decide_eq_true_eq]
      exact ⟨fun h => ⟨h.1.symm, h.2.symm⟩, fun h => ⟨h.1.symm, h.2.symm⟩⟩
    rw [List.find?_cons, e, st]
    by_cases hq : (decide (min x y = q.1) && decide (max x y = q.2.1)) = true
    · rw [hq]; simp
    · have hq' : (decide (min x y = q.1) && decide (max x y = q.2.1)) = false := by simpa using hq
      rw [hq']
      simp only [Bool.false_eq_true, if_false]
      exact ih (fun a ha => G a (List.mem_cons_of_mem _ ha)) _ _ _
theorem s_number_of (G : Good n A) {x y : Nat} (hx : x < 26) (hy : y < 26) : F_number_of [mir n A, Lt1 x, Lt1 y] m = .ok (.int (num A x y)) m := by
  have Gl : ∀ a ∈ A, a.1 < 26 ∧ a.2.1 < 26 := fun a ha => by
    have := G.lt a ha
    have := G.n6
    omega
  have L := find_number (m := m) Gl hx hy (mir n A) none none none
  have e0 := eqB_ss m (lc x) (lc y) (lc_ok hx) (lc_ok hy)
  rw [lc_beq] at e0
  by_cases h : x = y
  · subst h
    simp [F_number_of_eq, tb_number_of_eq, e0, num]
  · unfold loop_number at L
    cases hq : A.find? (fun a => a.1 == min x y && a.2.1 == max x y) with
    | some q =>
      rw [hq] at L
      simp [F_number_of_eq, tb_number_of_eq, e0, h, num, L, hq]
    | none =>
      rw [hq] at L
      obtain ⟨δ, L⟩ := L
      simp [F_number_of_eq, tb_number_of_eq, e0, h, num, L, hq]
end
end K21
namespace K21
open Dn Br Cox
section
variable {n : Nat} {A : List Ang} {m : Mu}
theorem ofS_letters : ofS "abcdefghijklmnopqrstuvwxyz" = wc (List.range 26) := by decide +kernel
theorem wc_len (w : List Nat) : (wc w).length = w.length := by simp [wc]
theorem wc_take (k : Nat) (h : k ≤ 26) : cutL (wc (List.range 26)) none (some (k : Int)) = wc (List.range k) := by
  have hl : (wc (List.range 26)).length = 26 := by simp [wc]
  rw [cut_take _ _ (by omega)]
  unfold wc
  rw [← List.map_take, List.take_range, Nat.min_eq_left h]
theorem s_letters (G : Good n A) : F_Mirrors_letters [mir n A] m = .ok (.str (wc (List.range n))) m := by
  have h := G.n6
  simp -implicitDefEqProofs [F_Mirrors_letters_eq, tb_Mirrors_letters_eq, ofS_letters, wc_len, SZ_val, wc_take n (by omega)]
theorem s_weight (G : Good n A) {x y : Nat} (hx : x < 26) (hy : y < 26) (h : x ≠ y) : F_weight [mir n A, Lt1 x, Lt1 y] m = .ok (.int (wt A x y)) m := by
  have hn := num_in G h
  by_cases hl : x < y
  · rcases hn with e | e | e | e | e <;> simp -implicitDefEqProofs [F_weight_eq, tb_weight_eq, s_number_of G hx hy, kk_ONES, kv_ONES, e, lc_lt, hl, wt, ones]
  · rcases hn with e | e | e | e | e <;> simp -implicitDefEqProofs [F_weight_eq, tb_weight_eq, s_number_of G hx hy, kk_ONES, kv_ONES, e, lc_lt, hl, wt, ones]
theorem single_comp (i : Nat) : comp2 (name2 2) yes2 (ifV (bool2 (op2 eqD (var2 2) (var2 1))) (con2 (D.int 1)) (con2 (D.int 0))) [some (mir n A), some (.int i), none] ((List.range n).map fun (k : Nat) => D.int (k : Int)) m = .ok (rowL n (alpha i)) m := by
  have := comp_mapP (g := name2 2) (te := ifV (bool2 (op2 eqD (var2 2) (var2 1))) (con2 (D.int 1)) (con2 (D.int 0))) (δ := [some (mir n A), some (.int i), none]) (m := m) (ds := (List.range n).map fun (k : Nat) => D.int (k : Int))
    (f := fun d => match d with | .int k => .int (if k = i then 1 else 0) | d => d) (fun d hd => by
      obtain ⟨k, _, rfl⟩ := List.mem_map.mp hd
      refine ⟨_, name2_ap _ _ _ _, ?_⟩
      by_cases h : (k : Int) = i <;> simp -implicitDefEqProofs [h])
  rw [this, List.map_map]
  refine congrArg (fun z => Rs.ok z m) (List.map_congr_left fun k _ => ?_)
  by_cases h : k = i
  · subst h; simp [alpha]
  · simp [alpha, h, show ¬ (k : Int) = (i : Int) from by omega]
theorem s_single (G : Good n A) (i : Nat) : F_single [mir n A, .int i] m = .ok (RowD n (alpha i)) m := by
  have h6 := G.n6
  have hs : small62 (n : Int) = true := small62_nat (by omega)
  simp -implicitDefEqProofs [F_single_eq, tb_single_eq, hs, intsFrom_nat, single_comp, rowL_len, SZ_val, show n ≤ 16777216 by omega]
/-- the row of weights of one letter -/
theorem wrow_comp (G : Good n A) {i : Nat} (hi : i < n) (δ : Dl) (hδ : δ[0]? = some (some (mir n A)) ∧ δ[3]? = some (some (Lt1 i)) ∧ δ.length = 5) :
    comp2 (name2 4) yes2 (ifV (bool2 (op2 eqD (var2 3) (var2 4))) (con2 (D.int 0)) (on2 F_weight (cons2 (var2 0) (cons2 (var2 3) (cons2 (var2 4) nil2))))) δ ((wc (List.range n)).map fun c => D.str [c]) m = .ok ((List.range n).map fun j => .int (w0 A i j)) m := by
  have h6 := G.n6
  have e : (wc (List.range n)).map (fun c => D.str [c]) = (List.range n).map fun j => Lt1 j := by simp [wc, lc, Lt1]
  obtain ⟨h1, h2, h3⟩ := hδ
  have := comp_mapP (g := name2 4) (te := ifV (bool2 (op2 eqD (var2 3) (var2 4))) (con2 (D.int 0)) (on2 F_weight (cons2 (var2 0) (cons2 (var2 3) (cons2 (var2 4) nil2))))) (δ := δ) (m := m) (ds := (List.range n).map fun j => Lt1 j)
    (f := fun d => .int (w0 A i (offL d))) (fun d hd => by
      obtain ⟨j, hj, rfl⟩ := List.mem_map.mp hd
      have hj := List.mem_range.mp hj
      refine ⟨_, name2_ap _ _ _ _, ?_⟩
      have e0 := eqB_ss m (lc i) (lc j) (lc_ok (by omega)) (lc_ok (by omega))
      rw [lc_beq] at e0
      have g0 : (δ.set 4 (some (Lt1 j)))[0]? = some (some (mir n A)) := by rw [List.getElem?_set_ne (by decide)]; exact h1
      have g3 : (δ.set 4 (some (Lt1 j)))[3]? = some (some (Lt1 i)) := by rw [List.getElem?_set_ne (by decide)]; exact h2
      have g4 : (δ.set 4 (some (Lt1 j)))[4]? = some (some (Lt1 j)) := List.getElem?_set_self (by omega)
      by_cases h : i = j
      · subst h
        simp -implicitDefEqProofs [g0, g3, g4, e0, w0]
      · simp -implicitDefEqProofs [g0, g3, g4, e0, h, s_weight G (show i < 26 by omega) (show j < 26 by omega) h, w0, Ne.symm h])
  rw [e, this, List.map_map]
  refine congrArg (fun z => Rs.ok z m) (List.map_congr_left fun k _ => ?_)
  show D.int (w0 A i (offL (Lt1 k))) = D.int (w0 A i k)
  rw [offL_lt]
theorem s_weights_of (G : Good n A) : Pu (F_weights_of [mir n A]) (wall n A) := by
  intro m
  have h6 := G.n6
  have e : (wc (List.range n)).map (fun c => D.str [c]) = (List.range n).map fun j => Lt1 j := by simp [wc, lc, Lt1]
  have L := for_inv (g := name2 3) (tb := expr2 (bm2 "list" appendM (var2 2) (cons2 (lc2 (it2 (var2 1)) (name2 4) yes2 (ifV (bool2 (op2 eqD (var2 3) (var2 4))) (con2 (D.int 0)) (on2 F_weight (cons2 (var2 0) (cons2 (var2 3) (cons2 (var2 4) nil2))))) [4]) nil2)))
    (I := fun i δ m' => (∃ a, δ = [some (mir n A), some (.str (wc (List.range n))), some (.ref m.length), a, none]) ∧ m' = m ++ [.lst ((List.range i).map (wrow n A))]) (ds := (List.range n).map fun j => Lt1 j) (fun i d δ m' hd hI => by
      obtain ⟨⟨a, rfl⟩, rfl⟩ := hI
      have hi : i < n := by
        have := (List.getElem?_eq_some_iff.mp hd).1
        simpa using this
      have hd' : d = Lt1 i := by
        rw [List.getElem?_map, List.getElem?_range hi] at hd
        exact (Option.some.inj hd).symm
      subst hd'
      refine ⟨_, _, ?_, ⟨some (Lt1 i), rfl⟩, rfl⟩
      have hg : (m ++ [Cell.lst ((List.range i).map (wrow n A))])[m.length]? = some (.lst ((List.range i).map (wrow n A))) := by simp
      have hc := wrow_comp (m := m ++ [Cell.lst ((List.range i).map (wrow n A))]) G hi [some (mir n A), some (.str (wc (List.range n))), some (.ref m.length), some (Lt1 i), none] ⟨rfl, rfl, rfl⟩
      simp -implicitDefEqProofs [hc, SZ_val, show n ≤ 16777216 by omega, show i < 16777216 by omega, List.range_succ, wrow])
    [some (mir n A), some (.str (wc (List.range n))), some (.ref m.length), none, none] (m ++ [.lst []]) ⟨⟨none, rfl⟩, by simp⟩
  obtain ⟨δ', m', hl, ⟨a, rfl⟩, rfl⟩ := L
  refine ⟨m ++ [.dead], ?_, Gr.dead⟩
  simp -implicitDefEqProofs [F_weights_of_eq, tb_weights_of_eq, s_letters G, e, hl, wall, SZ_val]
end
end K21
namespace K21
open Dn Br Cox
section
variable {n : Nat} {A : List Ang} {m : Mu}
theorem wall_get {i : Nat} (h : i < n) : ((List.range n).map fun i => wrow n A i)[i]? = some (wrow n A i) := by simp [h]
theorem w0_bound (G : Good n A) (i j : Nat) : -1000000000 ≤ w0 A i j ∧ w0 A i j ≤ 1000000000 := by
  unfold w0
  by_cases h : j = i
  · simp [h]
  · have := wt_bound G (Ne.symm h)
    rw [if_neg h]
    omega
theorem zip_rows (v : Vec) (i : Nat) : List.zipWith (fun a b => D.tup [a, b]) ((List.range n).map fun j => D.int (w0 A i j)) (rowL n v) = (List.range n).map fun j => D.tup [.int (w0 A i j), .int (v j)] := by
  unfold rowL
  rw [zip_range]
theorem prod_comp (G : Good n A) (v : Vec) (i : Nat) (δ : Dl) (hδ : δ.length = 6) :
    comp2 (tupG 2 (gcons2 (name2 4) (gcons2 (name2 5) gnil2))) yes2 (op2 mulD (var2 4) (var2 5)) δ ((List.range n).map fun j => D.tup [.int (w0 A i j), .int (v j)]) m = .ok ((List.range n).map fun j => .int (w0 A i j * v j)) m := by
  have := comp_mapP (g := tupG 2 (gcons2 (name2 4) (gcons2 (name2 5) gnil2))) (te := op2 mulD (var2 4) (var2 5)) (δ := δ) (m := m) (ds := (List.range n).map fun j => D.tup [.int (w0 A i j), .int (v j)])
    (f := fun d => match d with | .tup [.int a, .int b] => .int (a * b) | d => d) (fun d hd => by
      obtain ⟨j, hj, rfl⟩ := List.mem_map.mp hd
      have hs : small64 (w0 A i j) = true := small64_of (w0_bound G i j).1 (w0_bound G i j).2
      have g4 : ((δ.set 4 (some (D.int (w0 A i j)))).set 5 (some (.int (v j))))[4]? = some (some (.int (w0 A i j))) := by rw [List.getElem?_set_ne (by decide), List.getElem?_set_self (by omega)]
      have g5 : ((δ.set 4 (some (D.int (w0 A i j)))).set 5 (some (.int (v j))))[5]? = some (some (.int (v j))) := List.getElem?_set_self (by rw [List.length_set]; omega)
      refine ⟨(δ.set 4 (some (D.int (w0 A i j)))).set 5 (some (.int (v j))), by simp -implicitDefEqProofs, ?_⟩
      simp -implicitDefEqProofs [g4, g5, hs])
  rw [this, List.map_map]
  rfl
theorem row_cut {i : Nat} (h : i < n) (v : Vec) (x : Int) : cutL (rowL n v) none (some (i : Int)) ++ .int x :: cutL (rowL n v) (some ((i : Int) + 1)) none = rowL n (fun k => if k = i then x else v k) := by
  have e : ((i : Int) + 1) = ((i + 1 : Nat) : Int) := by omega
  rw [cut_take _ _ (by rw [rowL_len]; omega), e, cut_drop]
  unfold rowL
  rw [range_map_set n i _ _ h]
  refine List.map_congr_left fun k _ => ?_
  by_cases e2 : k = i
  · simp [e2]
  · simp [e2]
theorem look_wall : look m (wall n A) = wall n A := (rfl)
theorem idx_wall {i : Nat} (h : i < n) : idxK (wall n A) (.int i) m = .ok (wrow n A i) m := by
  show oOk (L2.atI _ _) m = _
  rw [atI_nat, wall_get h]
  rfl
theorem items_wrow (i : Nat) : itemsF (wrow n A i) = some ((List.range n).map fun j => .int (w0 A i j)) := (rfl)
theorem sum_w0 (v : Vec) (i : Nat) : ((List.range n).map fun j => w0 A i j * v j).sum = lam n (wt A) i v := by
  rw [sum_range]
  unfold lam
  refine sumTo_congr fun j _ => ?_
  unfold w0
  by_cases h : j = i
  · simp [h]
  · simp [h]
theorem s_sent_by (G : Good n A) (v : Vec) {i : Nat} (h : i < n) : F_sent_by [wall n A, .int i, RowD n v] m = .ok (RowD n (refl n (wt A) i v)) m := by
  have h6 := G.n6
  have hp := prod_comp (m := m) G v i [some (wall n A), some (.int i), some (RowD n v), none, none, none] rfl
  have hr := row_cut h v (lam n (wt A) i v - v i)
  have hi := intsOf_range n fun j => w0 A i j * v j
  have hg := rowL_get (v := v) h
  have hl : (cutL (rowL n v) none (some (i : Int)) ++ D.int (lam n (wt A) i v - v i) :: cutL (rowL n v) (some ((i : Int) + 1)) none).length = n := by rw [hr, rowL_len]
  have hl' : (cutL (rowL n v) none (some (i : Int))).length + ((cutL (rowL n v) (some ((i : Int) + 1)) none).length + 1) ≤ 16777216 := by
    simp only [List.length_append, List.length_cons] at hl
    omega
  simp -implicitDefEqProofs [F_sent_by_eq, tb_sent_by_eq, look_wall, idx_wall h, items_wrow, zip_rows, hp, hi, sum_w0, hg, SZ_val, show n ≤ 16777216 by omega, hl']
  exact hr
theorem s_sent_by' (G : Good n A) (v : Vec) {i : Nat} (h : i < n) : F_sent_by [wall n A, .int i, RowD n v] m = .ok (RowD n (refl n (wt A) i v)) m := s_sent_by G v h
end
end K21
namespace K21
open Dn Br Cox
section
variable {n : Nat} {A : List Ang} {m : Mu}
theorem index_lc : ∀ n ≤ 6, ∀ i < n, indexC (wc (List.range n)) (lc i) = some i := by decide +kernel
theorem wc_rev (w : List Nat) : (wc w).reverse = wc w.reverse := by simp [wc]
theorem wc_items (w : List Nat) : (wc w).map (fun c => D.str [c]) = w.map fun j => Lt1 j := by simp [wc, lc, Lt1]
theorem s_sent (G : Good n A) {w : List Nat} (hw : Lt n w) (hl : w.length ≤ 100) (v : Vec) : Pu (F_sent [mir n A, Wrd w, RowD n v]) (RowD n (act n (wt A) w v)) := by
  intro m
  have h6 := G.n6
  obtain ⟨m1, h1, g1⟩ := s_weights_of G m
  have L := for_inv (g := name2 4) (tb := asg2 (on2 F_sent_by (cons2 (var2 3) (cons2 (bm2 "str" sindexM (un2 (propD [("Mirrors", F_Mirrors_letters)]) (var2 0)) (cons2 (var2 4) nil2)) (cons2 (var2 2) nil2)))) (name2 2))
    (I := fun i δ m' => (∃ a, δ = [some (mir n A), some (Wrd w), some (RowD n (act n (wt A) (w.reverse.take i).reverse v)), some (wall n A), a]) ∧ m' = m1) (ds := w.reverse.map fun j => Lt1 j) (fun i d δ m' hd hI => by
      obtain ⟨⟨a, rfl⟩, rfl⟩ := hI
      rw [List.getElem?_map, Option.map_eq_some_iff] at hd
      obtain ⟨j, hj, rfl⟩ := hd
      have hjn : j < n := hw j (by have := List.mem_of_getElem? hj; simpa using this)
      refine ⟨_, _, ?_, ⟨some (Lt1 j), rfl⟩, rfl⟩
      have e : (w.reverse.take (i + 1)).reverse = j :: (w.reverse.take i).reverse := by
        rw [List.take_add_one, hj]
        simp
      rw [e]
      simp -implicitDefEqProofs [s_letters G, index_lc n h6 j hjn, s_sent_by G _ hjn])
    [some (mir n A), some (Wrd w), some (RowD n v), some (wall n A), none] m1 ⟨⟨none, by simp⟩, rfl⟩
  obtain ⟨δ', m', hl, ⟨a, rfl⟩, rfl⟩ := L
  refine ⟨m', ?_, g1⟩
  have e : (w.reverse.take (w.reverse.map fun j => Lt1 j).length).reverse = w := by
    rw [List.length_map, List.length_reverse, List.take_of_length_le (by simp), List.reverse_reverse]
  rw [e, List.map_reverse] at hl
  simp -implicitDefEqProofs [F_sent_eq, tb_sent_eq, h1, wc_len, SZ_val, show w.length ≤ 16777216 by omega, wc_rev, wc_items, hl]
theorem s_all_sent (G : Good n A) {w : List Nat} (hw : Lt n w) (hl : w.length ≤ 100) : Pu (F_all_sent [mir n A, Wrd w]) (.tup ((List.range n).map fun i => RowD n (act n (wt A) w (alpha i)))) := by
  intro m
  have h6 := G.n6
  have hs : small62 (n : Int) = true := small62_nat (by omega)
  have hc := comp_map (g := name2 2) (te := on2 F_sent (cons2 (var2 0) (cons2 (var2 1) (cons2 (on2 F_single (cons2 (var2 0) (cons2 (var2 2) nil2))) nil2)))) (δ := [some (mir n A), some (Wrd w), none]) (ds := (List.range n).map fun (k : Nat) => D.int (k : Int))
    (f := fun d => match d with | .int k => RowD n (act n (wt A) w (alpha k.toNat)) | d => d) (fun d hd m => by
      obtain ⟨k, hk, rfl⟩ := List.mem_map.mp hd
      obtain ⟨m', h', g'⟩ := s_sent G hw hl (alpha k) m
      refine ⟨_, m', name2_ap _ _ _ _, ?_, g'⟩
      simp -implicitDefEqProofs [s_single G, h']) m
  obtain ⟨m', hc, g⟩ := hc
  refine ⟨m', ?_, g⟩
  rw [List.map_map] at hc
  have e : (List.range n).map ((fun d => match d with | .int k => RowD n (act n (wt A) w (alpha k.toNat)) | d => d) ∘ fun (k : Nat) => D.int (k : Int)) = (List.range n).map fun i => RowD n (act n (wt A) w (alpha i)) := List.map_congr_left fun k _ => by simp
  rw [e] at hc
  simp -implicitDefEqProofs [F_all_sent_eq, tb_all_sent_eq, hs, intsFrom_nat, hc, SZ_val, show n ≤ 16777216 by omega]
end
end K21
namespace K21
open Dn Br Cox
section
variable {n : Nat} {A : List Ang} {m : Mu}
theorem s_is_integer (i : Int) : F_is_integer [.int i] m = .ok (.bl true) m := by
  simp -implicitDefEqProofs [F_is_integer_eq, tb_is_integer_eq]
theorem s_check_mirrors : F_check_mirrors [mir n A] m = .ok .non m := by
  simp -implicitDefEqProofs [F_check_mirrors_eq, tb_check_mirrors_eq]
theorem mem_wc {i : Nat} {w : List Nat} : (97 + i ∈ wc w) ↔ i ∈ w := by
  unfold wc
  rw [List.mem_map]
  constructor
  · rintro ⟨j, hj, e⟩
    have : j = i := by omega
    exact this ▸ hj
  · intro h
    exact ⟨i, h, rfl⟩
theorem in_comp (G : Good n A) {w : List Nat} (hw : Lt n w) (δ : Dl) (h0 : δ[0]? = some (some (mir n A))) (hl : δ.length = 3) :
    comp2 (name2 2) yes2 (op2 inD (var2 2) (un2 (propD [("Mirrors", F_Mirrors_letters)]) (var2 0))) δ (w.map fun j => Lt1 j) m = .ok (w.map fun _ => D.bl true) m := by
  have := comp_mapP (g := name2 2) (te := op2 inD (var2 2) (un2 (propD [("Mirrors", F_Mirrors_letters)]) (var2 0))) (δ := δ) (m := m) (ds := w.map fun j => Lt1 j) (f := fun d => .bl true) (fun d hd => by
    obtain ⟨j, hj, rfl⟩ := List.mem_map.mp hd
    refine ⟨_, name2_ap _ _ _ _, ?_⟩
    have g0 : (δ.set 2 (some (Lt1 j)))[0]? = some (some (mir n A)) := by rw [List.getElem?_set_ne (by decide)]; exact h0
    have g2 : (δ.set 2 (some (Lt1 j)))[2]? = some (some (Lt1 j)) := List.getElem?_set_self (by omega)
    have hm : 97 + j ∈ wc (List.range n) := mem_wc.mpr (List.mem_range.mpr (hw j hj))
    have hin : inK1 m (Lt1 j) (.str (wc (List.range n))) = some true := by
      show inK1 m (.str [97 + j]) _ = _
      rw [inK1_sc]
      simp [hm]
    simp -implicitDefEqProofs [g0, g2, s_letters G, hin])
  rw [this, List.map_map]
  rfl
theorem s_is_word (G : Good n A) {w : List Nat} (hw : Lt n w) (hl : w.length ≤ 60) : F_is_word [mir n A, Wrd w] m = .ok (.bl true) m := by
  have hc := in_comp (m := m) G hw [some (mir n A), some (Wrd w), none] rfl rfl
  have h1 : ¬ (60 < (w.length : Int)) := by omega
  simp -implicitDefEqProofs [F_is_word_eq, tb_is_word_eq, wc_len, SZ_val, show w.length ≤ 16777216 by omega, h1, wc_items, hc, blsOf_fn]
theorem s_check_word (G : Good n A) {w : List Nat} (hw : Lt n w) (hl : w.length ≤ 60) : F_check_word [mir n A, Wrd w] m = .ok .non m := by
  simp -implicitDefEqProofs [F_check_word_eq, tb_check_word_eq, s_is_word G hw hl]
theorem s_check_asked (G : Good n A) {w : List Nat} (hw : Lt n w) (hl : w.length ≤ 60) : F_check_asked [mir n A, Wrd w] m = .ok .non m := by
  simp -implicitDefEqProofs [F_check_asked_eq, tb_check_asked_eq, s_check_mirrors, s_check_word G hw hl]
theorem fault_comp (v : Vec) (n0 : Int) : comp2 (tupG 2 (gcons2 (name2 3) (gcons2 (name2 4) gnil2))) (notT (tst2 (on2 F_is_integer (cons2 (var2 4) nil2)))) (var2 3) [some (RowD n v), some (.int n0), none, none, none] ((List.range n).map fun (k : Nat) => D.tup [.int (k : Int), .int (v k)]) m = .ok [] m := by
  have := comp_pure (g := tupG 2 (gcons2 (name2 3) (gcons2 (name2 4) gnil2))) (tt := notT (tst2 (on2 F_is_integer (cons2 (var2 4) nil2)))) (te := var2 3) (δ := [some (RowD n v), some (.int n0), none, none, none]) (m := m) (ds := (List.range n).map fun (k : Nat) => D.tup [.int (k : Int), .int (v k)])
    (p := fun _ => false) (f := id) (fun d hd => by
      obtain ⟨k, hk, rfl⟩ := List.mem_map.mp hd
      refine ⟨[some (RowD n v), some (.int n0), none, some (.int k), some (.int (v k))], by simp -implicitDefEqProofs, ?_, fun z => by cases z⟩
      simp -implicitDefEqProofs [s_is_integer])
  rw [this]
  simp
theorem eqB_nil : eqB m (.lst []) (.lst []) = some true := by simp [eqB, D.pd, D.pds, D.eq, D.eqs]
theorem eqB_m1 : eqB m (.int (-1)) (.int (-1)) = some true := by rw [eqB_ii]; rfl
end
end K21
namespace K21
open Dn Br Cox
section
variable {n : Nat} {A : List Ang} {m : Mu}
theorem ltC_one (i j : Nat) : ltC [97 + i] [97 + j] = decide (i < j) := lc_lt i j
theorem in_num {k : Int} (h : k = 3 ∨ k = 4 ∨ k = 6 ∨ k = 0) : inK1 m (.int k) (.tup [.int 3, .int 4, .int 6, .int 0]) = some true := by
  rcases h with rfl | rfl | rfl | rfl <;> simp [D.pd, D.pds, D.eq]
theorem in_letters {i k : Nat} (h : i < k) : inK1 m (Lt1 i) (.str (wc (List.range k))) = some true := by
  show inK1 m (.str [97 + i]) _ = _
  rw [inK1_sc]
  simp [mem_wc, h]
theorem s_is_angle {a : Ang} {k : Nat} (h1 : a.1 < a.2.1) (h2 : a.2.1 < k) (h3 : a.2.2 = 3 ∨ a.2.2 = 4 ∨ a.2.2 = 6 ∨ a.2.2 = 0) {x : Cs} (hx : ltC x [97 + a.1, 97 + a.2.1] = true) :
    F_is_angle [angD a, .str (wc (List.range k)), .str x] m = .ok (.bl true) m := by
  have i1 := in_letters (m := m) (show a.1 < k by omega)
  have i2 := in_letters (m := m) h2
  have hlt : ltC (lc a.1) (lc a.2.1) = true := by rw [lc_lt]; simp [h1]
  have hx' : ltC x (lc a.1 ++ lc a.2.1) = true := hx
  have hl : ∀ i, (lc i).length = 1 := fun _ => rfl
  rcases h3 with h | h | h | h <;> simp -implicitDefEqProofs [F_is_angle_eq, tb_is_angle_eq, angD_eq, SZ_val, i1, i2, h, hlt, hx', hl, D.pd, D.pds, D.eq]
def codeA (a : Ang) : Cs := [97 + a.1, 97 + a.2.1]
def ahead (A : List Ang) : Nat → Cs
  | 0 => []
  | i + 1 => match A[i]? with | some a => codeA a | none => []
theorem ahead_succ (i : Nat) : ahead A (i + 1) = match A[i]? with | some a => codeA a | none => [] := rfl
theorem ltC_code (a b : Ang) : ltC (codeA a) (codeA b) = ltA a b := by
  unfold ltC codeA ltA
  rw [Bool.eq_iff_iff]
  simp only [decide_eq_true_eq, Bool.or_eq_true, Bool.and_eq_true, beq_iff_eq, List.cons_lt_cons_iff]
  constructor
  · rintro (h | ⟨h, h2 | ⟨_, h3⟩⟩)
    · exact .inl (by omega)
    · exact .inr ⟨by omega, by omega⟩
    · exact absurd h3 (List.lt_irrefl _)
  · rintro (h | ⟨h, h2⟩)
    · exact .inl (by omega)
    · exact .inr ⟨by omega, .inl (by omega)⟩
theorem ltC_nil (a : Ang) : ltC [] (codeA a) = true := by
  unfold ltC codeA
  exact decide_eq_true (List.nil_lt_cons _ _)
theorem ahead_lt (G : Good n A) {i : Nat} {a : Ang} (h : A[i]? = some a) : ltC (ahead A i) (codeA a) = true := by
  cases i with
  | zero => exact ltC_nil a
  | succ i =>
    have hi := (List.getElem?_eq_some_iff.mp h)
    obtain ⟨h1, h2⟩ := hi
    have : A[i]? = some (A[i]'(by omega)) := by simp
    rw [ahead_succ, this]
    show ltC (codeA _) (codeA a) = true
    rw [ltC_code, ← h2]
    exact (List.pairwise_iff_getElem.mp G.asc) i (i + 1) (by omega) h1 (by omega)
/-- the angles of good mirrors, gone through -/
theorem s_angles_fault (G : Good n A) : F_angles_fault [.str (wc (List.range n)), .tup (A.map angD)] m = .ok (.int (-1)) m := by
  have h6 := G.n6
  have L := for_inv (g := tupG 2 (gcons2 (name2 3) (gcons2 (name2 4) gnil2))) (tb := seq2 (if2 (notT (tst2 (on2 F_is_angle (cons2 (var2 4) (cons2 (var2 0) (cons2 (var2 2) nil2)))))) (ret2 (var2 3)) nop2)
      (asg2 (op2 addD (op2 idxD (var2 4) (con2 (D.int 0))) (op2 idxD (var2 4) (con2 (D.int 1)))) (name2 2)))
    (I := fun i δ m' => (∃ a b, δ = [some (.str (wc (List.range n))), some (.tup (A.map angD)), some (.str (ahead A i)), a, b]) ∧ m' = m) (ds := ((A.map angD).zipIdx).map fun p => D.tup [.int (p.2 : Nat), p.1]) (fun i d δ m' hd hI => by
      obtain ⟨⟨a, b, rfl⟩, rfl⟩ := hI
      rw [List.getElem?_map, List.getElem?_zipIdx, List.getElem?_map] at hd
      cases ha : A[i]? with
      | none => rw [ha] at hd; cases hd
      | some q =>
        rw [ha] at hd
        simp only [Option.map_some, Option.some.injEq, Nat.zero_add] at hd
        subst hd
        have hq := List.mem_of_getElem? ha
        have s1 := s_is_angle (m := m') (k := n) (G.lt q hq).1 (G.lt q hq).2 (G.nu q hq) (ahead_lt G ha)
        refine ⟨_, _, ?_, ⟨some (.int i), some (angD q), rfl⟩, rfl⟩
        have e : ahead A (i + 1) = lc q.1 ++ lc q.2.1 := by rw [ahead_succ, ha]; rfl
        have hl : ∀ i, (lc i).length = 1 := fun _ => rfl
        rw [e]
        simp -implicitDefEqProofs [s1]
        simp -implicitDefEqProofs [angD_eq, SZ_val, hl])
    [some (.str (wc (List.range n))), some (.tup (A.map angD)), some (.str []), none, none] m ⟨⟨none, none, rfl⟩, rfl⟩
  obtain ⟨δ', m', hl, ⟨a, b, rfl⟩, rfl⟩ := L
  simp -implicitDefEqProofs [F_angles_fault_eq, tb_angles_fault_eq, SZ_val, show ofS "" = [] from rfl, hl]
theorem s_check_number {k lo hi : Int} (h : lo ≤ k) (h' : k ≤ hi) : F_check_number [.int k, .int lo, .int hi] m = .ok .non m := by
  simp -implicitDefEqProofs [F_check_number_eq, tb_check_number_eq, F_is_between_eq, tb_is_between_eq, s_is_integer, h, h']
theorem s_init (G : Good n A) (r : Nat) (hr : m[r]? = some (.ins "Mirrors" [] [])) : F_Mirrors_init [.ref r, .int n, .tup (A.map angD)] m = .ok .non (m.set r (.ins "Mirrors" ["size", "angles"] [.int n, .tup (A.map angD)])) := by
  have h6 := G.n6
  have h1 := G.n1
  simp -implicitDefEqProofs [F_Mirrors_init_eq, tb_Mirrors_init_eq, s_check_number (m := m) (show (1 : Int) ≤ (n : Int) by omega) (show (n : Int) ≤ 6 by omega), ofS_letters, wc_len, SZ_val, wc_take n (by omega), s_angles_fault G, hr, mu_set hr]
end
end K21
namespace K21
open Dn Br Cox
section
variable {n : Nat} {A : List Ang} {m : Mu}
/-- the tub of drawn numbers in cell r -/
def Tub (m : Mu) (r : Nat) : Prop := ∃ a b c : Int, m[r]? = some (.lst [.int a, .int b, .int c])
structure TS (r : Nat) (m m' : Mu) : Prop where
  tub : Tub m' r
  stay : Stay r m m'
  len : m.length ≤ m'.length
theorem TS.refl {r : Nat} (h : Tub m r) : TS r m m := ⟨h, .refl, Nat.le_refl _⟩
theorem TS.trans {r : Nat} {a b c : Mu} (h : TS r a b) (h' : TS r b c) : TS r a c := ⟨h'.tub, h.stay.trans h'.stay, Nat.le_trans h.len h'.len⟩
theorem Tub.gr {r : Nat} {m' : Mu} (h : Tub m r) (g : Gr m m') : TS r m m' := by
  obtain ⟨a, b, c, e⟩ := h
  exact ⟨⟨a, b, c, g.get e⟩, g.stay, g.len⟩
theorem log_small {k : Int} (h : 0 ≤ k) (h' : k ≤ 2 ^ 200) : k.natAbs.log2 < 9000 := by
  by_cases h0 : k.natAbs = 0
  · rw [h0]; decide
  · have h1 := Nat.log2_self_le h0
    refine Classical.byContradiction fun hn => ?_
    have h2 : (2 : Nat) ^ 201 ≤ 2 ^ k.natAbs.log2 := Nat.pow_le_pow_right (by decide) (by omega)
    have h3 : k.natAbs ≤ 2 ^ 200 := by
      have : ((k.natAbs : Nat) : Int) = k := by omega
      have h4 : ((k.natAbs : Nat) : Int) ≤ ((2 ^ 200 : Nat) : Int) := by rw [this]; exact h'
      exact Int.ofNat_le.mp h4
    have h5 : (2 : Nat) ^ 200 < 2 ^ 201 := by decide
    omega
theorem s_sip {r : Nat} {top : Int} (h : Tub m r) (ht : 0 < top) (h' : top ≤ 2 ^ 200) : ∃ d m', F_law_sip [.ref r, .int top] m = .ok (.int d) m' ∧ 0 ≤ d ∧ d < top ∧ TS r m m' := by
  obtain ⟨a, b, c, h⟩ := h
  have h2 := log_small (by omega) h'
  have s1 : small64 39373 = true := small64_of (by decide) (by decide)
  have s2 : small64 1777 = true := small64_of (by decide) (by decide)
  by_cases ha : 0 < a
  · refine ⟨a % top, m.set r (.lst [.int (a / top), .int b, .int (c + 1)]), ?_, Int.emod_nonneg _ (by omega), Int.emod_lt_of_pos _ ht, ⟨_, _, _, mu_set h⟩, Stay.set, by simp⟩
    simp -implicitDefEqProofs [F_law_sip_eq, tb_law_sip_eq, h, mu_set h, ht, ha, h2]
  · generalize hb : (b * 39373 + 1777 * (c + 1) + 47) % 2147483563 = b'
    refine ⟨b' / 64 % top, m.set r (.lst [.int a, .int b', .int (c + 1)]), ?_, Int.emod_nonneg _ (by omega), Int.emod_lt_of_pos _ ht, ⟨_, _, _, mu_set h⟩, Stay.set, by simp⟩
    simp -implicitDefEqProofs [F_law_sip_eq, tb_law_sip_eq, h, mu_set h, ht, s1, s2, ha, hb, show Nat.log2 64 = 6 from by decide]
theorem s_pick {r : Nat} {ds : List D} (h : Tub m r) (hd : 0 < ds.length) (hl : ds.length ≤ 1000) : ∃ d m', F_law_pick [.ref r, .lst ds] m = .ok d m' ∧ d ∈ ds ∧ TS r m m' := by
  obtain ⟨k, m', e, h1, h2, t⟩ := s_sip (top := (ds.length : Int)) h (by omega) (by
    have : (1000 : Int) ≤ 2 ^ 200 := by decide +kernel
    omega)
  have hk : k.toNat < ds.length := by omega
  refine ⟨ds[k.toNat], m', ?_, List.getElem_mem hk, t⟩
  have e2 : L2.atI ds k = some ds[k.toNat] := by rw [atI_of ds k h1]; simp [hk]
  simp -implicitDefEqProofs [F_law_pick_eq, tb_law_pick_eq, e, e2]
/-! plans -/
def keysA (A : List Ang) : List DKey := A.map fun a => .s (codeA a)
def valsA (A : List Ang) : List D := A.map fun a => .int a.2.2
def plan (n : Nat) (A : List Ang) : D := .lst [.int n, .dct (keysA A) (valsA A)]
/-- angles of pairs ahead of (i, j) -/
structure Part (n : Nat) (A : List Ang) (i j : Nat) : Prop where
  lt : ∀ a ∈ A, a.1 < a.2.1 ∧ a.2.1 < n
  nu : ∀ a ∈ A, a.2.2 = 3 ∨ a.2.2 = 4 ∨ a.2.2 = 6 ∨ a.2.2 = 0
  asc : A.Pairwise fun a b => ltA a b = true
  ah : ∀ a ∈ A, a.1 < i ∨ (a.1 = i ∧ a.2.1 < j)
theorem dput_new : ∀ {ks : List DKey} {vs : List D} {k : DKey} {d : D}, ks.length = vs.length → k ∉ ks → dput ks vs k d = (ks ++ [k], vs ++ [d])
  | [], [], _, _, _, _ => rfl
  | k0 :: ks, v :: vs, k, d, h, hn => by
    simp only [List.mem_cons, not_or] at hn
    unfold dput
    rw [if_neg (Ne.symm hn.1), dput_new (by simpa using h) hn.2]
    rfl
theorem codeA_inj {a b : Ang} (h : codeA a = codeA b) : a.1 = b.1 ∧ a.2.1 = b.2.1 := by
  unfold codeA at h
  simp only [List.cons.injEq, and_true] at h
  omega
theorem Part.add {i j : Nat} {k : Int} (P : Part n A i j) (hij : i < j) (hj : j < n) (hk : k = 3 ∨ k = 4 ∨ k = 6 ∨ k = 0) : Part n (A ++ [(i, j, k)]) i (j + 1) ∧ DKey.s (codeA (i, j, k)) ∉ keysA A := by
  refine ⟨⟨fun a ha => ?_, fun a ha => ?_, ?_, fun a ha => ?_⟩, fun h => ?_⟩
  · rcases List.mem_append.mp ha with h | h
    · exact P.lt a h
    · rw [List.mem_singleton.mp h]; exact ⟨hij, hj⟩
  · rcases List.mem_append.mp ha with h | h
    · exact P.nu a h
    · rw [List.mem_singleton.mp h]; exact hk
  · refine List.pairwise_append.mpr ⟨P.asc, List.pairwise_singleton _ _, fun a ha b hb => ?_⟩
    rw [List.mem_singleton.mp hb]
    have := P.ah a ha
    unfold ltA
    simp only [Bool.or_eq_true, Bool.and_eq_true, decide_eq_true_eq, beq_iff_eq]
    omega
  · rcases List.mem_append.mp ha with h | h
    · have := P.ah a h
      omega
    · rw [List.mem_singleton.mp h]; exact .inr ⟨rfl, Nat.lt_succ_self j⟩
  · obtain ⟨a, ha, e⟩ := List.mem_map.mp h
    injection e with e
    have h1 := codeA_inj e
    have h2 := P.ah a ha
    simp only at h1
    omega
theorem keysA_nodup (h : A.Pairwise fun a b => ltA a b = true) : (keysA A).Nodup := by
  unfold keysA
  rw [List.nodup_iff_pairwise_ne, List.pairwise_map]
  refine h.imp fun {a b} hab e => ?_
  injection e with e
  obtain ⟨h1, h2⟩ := codeA_inj e
  unfold ltA at hab
  simp only [Bool.or_eq_true, Bool.and_eq_true, decide_eq_true_eq, beq_iff_eq] at hab
  omega
theorem inc_len : ∀ {l : List Nat} {lo : Nat}, l.Pairwise (· < ·) → (∀ x ∈ l, lo ≤ x ∧ x < 36) → l.length ≤ 36 - lo
  | [], _, _, _ => Nat.zero_le _
  | x :: l, lo, h, hb => by
    have h1 := List.pairwise_cons.mp h
    have hx := hb x List.mem_cons_self
    have := inc_len (l := l) (lo := x + 1) h1.2 (fun y hy => ⟨h1.1 y hy, (hb y (List.mem_cons_of_mem _ hy)).2⟩)
    rw [List.length_cons]
    omega
theorem asc_len (h6 : n ≤ 6) (lt : ∀ a ∈ A, a.1 < a.2.1 ∧ a.2.1 < n) (asc : A.Pairwise fun a b => ltA a b = true) : A.length ≤ 36 := by
  have := inc_len (l := A.map fun a => 6 * a.1 + a.2.1) (lo := 0) (by
    rw [List.pairwise_map]
    refine (List.Pairwise.and_mem.mp asc).imp fun {a b} h => ?_
    have h1 := lt a h.1
    have h2 := lt b h.2.1
    have h3 := h.2.2
    unfold ltA at h3
    simp only [Bool.or_eq_true, Bool.and_eq_true, decide_eq_true_eq, beq_iff_eq] at h3
    omega) (fun x hx => by
    obtain ⟨a, ha, rfl⟩ := List.mem_map.mp hx
    have h1 := lt a ha
    omega)
  simpa using this
theorem Part.len {i j : Nat} (P : Part n A i j) (h : n ≤ 6) : A.length ≤ 36 := asc_len h P.lt P.asc
end
end K21
namespace K21
open Dn Br Cox
section
variable {n : Nat} {A : List Ang} {m : Mu}
theorem Part.at_row {i : Nat} (P : Part n A i 0) : Part n A i (i + 1) := ⟨P.lt, P.nu, P.asc, fun a ha => by have := P.ah a ha; omega⟩
theorem Part.next_row {i j : Nat} (P : Part n A i j) : Part n A (i + 1) 0 := ⟨P.lt, P.nu, P.asc, fun a ha => by have := P.ah a ha; omega⟩
theorem Part.skip {i j : Nat} (P : Part n A i j) : Part n A i (j + 1) := ⟨P.lt, P.nu, P.asc, fun a ha => by have := P.ah a ha; omega⟩
theorem Part.good {i : Nat} (P : Part n A i 0) (h1 : 1 ≤ n) (h6 : n ≤ 6) : Good n A := ⟨h1, h6, P.lt, P.nu, P.asc⟩
theorem menu_mem {d : D} (h : d ∈ [D.int 2, .int 2, .int 3, .int 3, .int 3, .int 4, .int 6, .int 0]) : ∃ k : Int, d = .int k ∧ (k = 2 ∨ (k = 3 ∨ k = 4 ∨ k = 6 ∨ k = 0)) := by
  simp only [List.mem_cons, List.not_mem_nil, or_false] at h
  rcases h with rfl | rfl | rfl | rfl | rfl | rfl | rfl | rfl
  · exact ⟨2, rfl, .inl rfl⟩
  · exact ⟨2, rfl, .inl rfl⟩
  · exact ⟨3, rfl, .inr (.inl rfl)⟩
  · exact ⟨3, rfl, .inr (.inl rfl)⟩
  · exact ⟨3, rfl, .inr (.inl rfl)⟩
  · exact ⟨4, rfl, .inr (.inr (.inl rfl))⟩
  · exact ⟨6, rfl, .inr (.inr (.inr (.inl rfl)))⟩
  · exact ⟨0, rfl, .inr (.inr (.inr (.inr rfl)))⟩
theorem at_letters {i : Nat} (h : i < 6) : L2.atI (ofS "abcdef") (i : Int) = some (97 + i) := by
  rw [atI_nat]
  have : ofS "abcdef" = [97, 98, 99, 100, 101, 102] := by decide +kernel
  rw [this]
  rcases (show i = 0 ∨ i = 1 ∨ i = 2 ∨ i = 3 ∨ i = 4 ∨ i = 5 by omega) with rfl | rfl | rfl | rfl | rfl | rfl <;> rfl
theorem letters_len : (ofS "abcdef").length = 6 := by decide +kernel
structure PI (r p n i j : Nat) (m0 m' : Mu) (A : List Ang) : Prop where
  part : Part n A i j
  found : m'[p]? = some (.dct (keysA A) (valsA A))
  ts : TS r m0 m'
def body_plan : Dl → Mu → Ro := (seq2 (asg2 (on2 F_law_pick (cons2 (var2 0) (cons2 (lst2 (cons2 (con2 (.int 2)) (cons2 (con2 (.int 2)) (cons2 (con2 (.int 3)) (cons2 (con2 (.int 3)) (cons2 (con2 (.int 3)) (cons2 (con2 (.int 4)) (cons2 (con2 (.int 6)) (cons2 (con2 (.int 0)) nil2))))))))) nil2))) (name2 6))
      (if2 (bool2 (op2 neD (var2 6) (con2 (.int 2))))
      (asg2 (var2 6) (subG (var2 3) (op2 addD (op2 idxD (con2 (.str (ofS "abcdef"))) (var2 4)) (op2 idxD (con2 (.str (ofS "abcdef"))) (var2 5)))))
      nop2))
theorem body_plan_eq (δ : Dl) (m : Mu) : body_plan δ m = (seq2 (asg2 (on2 F_law_pick (cons2 (var2 0) (cons2 (lst2 (cons2 (con2 (.int 2)) (cons2 (con2 (.int 2)) (cons2 (con2 (.int 3)) (cons2 (con2 (.int 3)) (cons2 (con2 (.int 3)) (cons2 (con2 (.int 4)) (cons2 (con2 (.int 6)) (cons2 (con2 (.int 0)) nil2))))))))) nil2))) (name2 6))
      (if2 (bool2 (op2 neD (var2 6) (con2 (.int 2))))
      (asg2 (var2 6) (subG (var2 3) (op2 addD (op2 idxD (con2 (.str (ofS "abcdef"))) (var2 4)) (op2 idxD (con2 (.str (ofS "abcdef"))) (var2 5)))))
      nop2)) δ m := (rfl)
theorem plan_step {M6 : D} {r p i j : Nat} {m0 m1 : Mu} (h6 : n ≤ 6) (hp : m0.length ≤ p) (hrp : r ≠ p) (hij : i < j) (hj : j < n) (P : PI r p n i j m0 m1 A) (b : Option D) :
    ∃ A' b' m', body_plan [some (.ref r), some M6, some (.int n), some (.ref p), some (.int i), some (.int j), b] m1 = .next [some (.ref r), some M6, some (.int n), some (.ref p), some (.int i), some (.int j), b'] m' ∧ PI r p n i (j + 1) m0 m' A' := by
  obtain ⟨d, m2, e, hd, t⟩ := s_pick (m := m1) (ds := [.int 2, .int 2, .int 3, .int 3, .int 3, .int 4, .int 6, .int 0]) P.ts.tub (by decide) (by decide)
  obtain ⟨k, rfl, hk⟩ := menu_mem hd
  have f2 : m2[p]? = some (.dct (keysA A) (valsA A)) := t.stay p _ (Ne.symm hrp) P.found
  rcases hk with rfl | hk
  · refine ⟨A, some (.int 2), m2, ?_, P.part.skip, f2, P.ts.trans t⟩
    rw [body_plan_eq]
    simp -implicitDefEqProofs [e, SZ_val]
  · obtain ⟨P', hn⟩ := P.part.add hij hj hk
    have hk2 : k ≠ 2 := by omega
    have a1 := at_letters (show i < 6 by omega)
    have a2 := at_letters (show j < 6 by omega)
    have nd := keysA_nodup P.part.asc
    have hl : A.length < 16777216 := by
      have := P.part.len h6
      omega
    have hd := dput_new (d := D.int k) (show (keysA A).length = (valsA A).length by simp [keysA, valsA]) hn
    refine ⟨A ++ [(i, j, k)], some (.int k), m2.set p (.dct (keysA (A ++ [(i, j, k)])) (valsA (A ++ [(i, j, k)]))), ?_, P', mu_set f2, ?_⟩
    · rw [body_plan_eq]
      have hc : codeA (i, j, k) = [97 + i, 97 + j] := rfl
      rw [hc] at hd
      simp -implicitDefEqProofs [e, hk2, a1, a2, letters_len, f2, nd, hl, hd, SZ_val, show (2 ≤ 16777216) = True from by simp]
      simp [keysA, valsA, hc, hl]
    · have t2 := P.ts.trans t
      refine ⟨?_, fun x c hx hc => ?_, by simpa using t2.len⟩
      · obtain ⟨a, b, c, h⟩ := t2.tub
        exact ⟨a, b, c, by rw [List.getElem?_set_ne (Ne.symm hrp)]; exact h⟩
      · have : x < m0.length := mu_lt hc
        rw [List.getElem?_set_ne (by omega)]
        exact t2.stay x c hx hc
theorem plan_row {M6 : D} {r p i : Nat} {m0 : Mu} (h6 : n ≤ 6) (hp : m0.length ≤ p) (hrp : r ≠ p) (hi : i < n) (b c : Option D) {m1 : Mu} (P : PI r p n i 0 m0 m1 A) :
    ∃ A' b' c' m', for2 (name2 5) body_plan (intsFrom ((i : Int) + 1) ((n : Int) - ((i : Int) + 1)).toNat) [some (.ref r), some M6, some (.int n), some (.ref p), some (.int i), b, c] m1 = .next [some (.ref r), some M6, some (.int n), some (.ref p), some (.int i), b', c'] m' ∧ PI r p n (i + 1) 0 m0 m' A' := by
  have L := for_inv (g := name2 5) (tb := body_plan) (ds := intsFrom ((i : Int) + 1) ((n : Int) - ((i : Int) + 1)).toNat)
    (I := fun j δ m' => ∃ A' b' c', δ = [some (.ref r), some M6, some (.int n), some (.ref p), some (.int i), b', c'] ∧ PI r p n i (i + 1 + j) m0 m' A') (fun j d δ m' hd hI => by
      obtain ⟨A', b', c', rfl, P'⟩ := hI
      unfold intsFrom at hd
      rw [List.getElem?_map] at hd
      by_cases hj : j < ((n : Int) - ((i : Int) + 1)).toNat
      · rw [List.getElem?_range hj] at hd
        simp only [Option.map_some, Option.some.injEq] at hd
        subst hd
        have hc : (i : Int) + 1 + (j : Int) = ((i + 1 + j : Nat) : Int) := by omega
        rw [hc]
        obtain ⟨A2, b2, m2, e2, P2⟩ := plan_step (M6 := M6) h6 hp hrp (show i < i + 1 + j by omega) (by omega) P' c'
        refine ⟨_, m2, ?_, A2, some (.int ((i + 1 + j : Nat) : Int)), b2, rfl, P2⟩
        exact e2
      · rw [List.getElem?_eq_none (by simpa using hj)] at hd
        cases hd) [some (.ref r), some M6, some (.int n), some (.ref p), some (.int i), b, c] m1 ⟨A, b, c, rfl, P.part.at_row, P.found, P.ts⟩
  obtain ⟨δ', m', e, A', b', c', rfl, P'⟩ := L
  exact ⟨A', b', c', m', e, P'.part.next_row, P'.found, P'.ts⟩
theorem s_planM {r : Nat} (h : Tub m r) {most : Nat} (q1 : 1 ≤ most) (q6 : most ≤ 6) : ∃ n A m', F_law_plan [.ref r, .int most] m = .ok (plan n A) m' ∧ Good n A ∧ n ≤ most ∧ TS r m m' := by
  obtain ⟨k, m1, e, h1, h2, t⟩ := s_sip (top := (most : Int)) h (by omega) (by
    have : (100 : Int) ≤ 2 ^ 200 := by decide +kernel
    omega)
  obtain ⟨n, hn⟩ : ∃ n : Nat, 1 + k = (n : Int) := ⟨(1 + k).toNat, by omega⟩
  have h6 : n ≤ 6 := by omega
  have hr : r < m1.length := by
    obtain ⟨a, b, c, h⟩ := t.tub
    exact mu_lt h
  have L := for_inv (g := name2 4) (tb := forS (on2 rg2D (cons2 (op2 addD (var2 4) (con2 (.int 1))) (cons2 (var2 2) nil2))) (name2 5) body_plan) (ds := intsFrom 0 n)
    (I := fun i δ m' => ∃ A' a' b' c', δ = [some (.ref r), some (.int most), some (.int n), some (.ref m1.length), a', b', c'] ∧ PI r m1.length n i 0 m1 m' A') (fun i d δ m' hd hI => by
      obtain ⟨A', a', b', c', rfl, P'⟩ := hI
      unfold intsFrom at hd
      rw [List.getElem?_map] at hd
      by_cases hj : i < n
      · rw [List.getElem?_range hj] at hd
        simp only [Option.map_some, Option.some.injEq, Int.zero_add] at hd
        subst hd
        obtain ⟨A2, b2, c2, m2, e2, P2⟩ := plan_row (M6 := .int most) h6 (Nat.le_refl _) (Nat.ne_of_lt hr) hj b' c' P'
        refine ⟨_, m2, ?_, A2, some (.int (i : Int)), b2, c2, rfl, P2⟩
        simp -implicitDefEqProofs [small62_of (show (-1000000000 : Int) ≤ (i : Int) + 1 by omega) (show (i : Int) + 1 ≤ 1000000000 by omega), small62_nat (show n ≤ 1000000 by omega), e2]
      · rw [List.getElem?_eq_none (by simpa using hj)] at hd
        cases hd) [some (.ref r), some (.int most), some (.int n), some (.ref m1.length), none, none, none] (m1 ++ [.dct [] []]) ⟨[], none, none, none, rfl, ⟨by simp, by simp, .nil, by simp⟩, by simp [keysA, valsA], by
          obtain ⟨a, b, c, h⟩ := t.tub
          exact ⟨⟨a, b, c, Stay.push (r := m1.length) r _ (Nat.ne_of_lt hr) h⟩, Stay.push, by simp⟩⟩
  obtain ⟨δ', m', el, A', a', b', c', rfl, P'⟩ := L
  have hl : (intsFrom 0 n).length = n := by simp [intsFrom]
  rw [hl] at P'
  refine ⟨n, A', m'.set m1.length .dead, ?_, P'.part.good (by omega) h6, by omega, ?_⟩
  · unfold body_plan at el
    simp -implicitDefEqProofs [F_law_plan_eq, tb_law_plan_eq, e, hn, small62_nat (show n ≤ 1000000 by omega), el, P'.found, SZ_val, plan]
  · have t2 := t.trans P'.ts
    refine ⟨?_, fun x c hx hc => ?_, by simpa using t2.len⟩
    · obtain ⟨a, b, c, h⟩ := t2.tub
      exact ⟨a, b, c, by rw [List.getElem?_set_ne (by omega)]; exact h⟩
    · have : x < m1.length := by
        have := mu_lt hc
        have := t.len
        omega
      rw [List.getElem?_set_ne (by omega)]
      exact t2.stay x c hx hc
theorem s_plan {r : Nat} (h : Tub m r) : ∃ n A m', F_law_plan [.ref r, .int 6] m = .ok (plan n A) m' ∧ Good n A ∧ TS r m m' := by
  obtain ⟨n, A, m', e, g, _, t⟩ := s_planM h (most := 6) (by decide) (by decide)
  exact ⟨n, A, m', e, g, t⟩
end
end K21
namespace K21
open Dn Br Cox
section
variable {n : Nat} {A : List Ang} {m : Mu}
theorem plan_eq (n : Nat) (A : List Ang) : plan n A = .lst [.int n, .dct (keysA A) (valsA A)] := (rfl)
theorem keysS_A (A : List Ang) : keysS (keysA A) = some (A.map codeA) := by
  induction A with
  | nil => rfl
  | cons a A ih =>
    unfold keysA at ih ⊢
    rw [List.map_cons, keysS, ih]
    rfl
theorem sortC_A (h : A.Pairwise fun a b => ltA a b = true) : sortC (A.map codeA) = A.map codeA := by
  unfold sortC
  refine List.mergeSort_of_pairwise ?_
  rw [List.pairwise_map]
  refine h.imp fun {a b} hab => ?_
  have h1 : ltC (codeA a) (codeA b) = true := by rw [ltC_code]; exact hab
  rw [leC_iff]
  unfold ltC at h1
  exact List.le_of_lt (of_decide_eq_true h1)
theorem lkp_A (h : A.Pairwise fun a b => ltA a b = true) : ∀ a ∈ A, lkp (keysA A) (valsA A) (.s (codeA a)) = some (.int a.2.2) := by
  induction A with
  | nil => intro a ha; cases ha
  | cons q A ih =>
    intro a ha
    have hk : keysA (q :: A) = .s (codeA q) :: keysA A := rfl
    have hv : valsA (q :: A) = .int q.2.2 :: valsA A := rfl
    have hp := List.pairwise_cons.mp h
    rw [hk, hv, lkp_cons]
    rcases List.mem_cons.mp ha with rfl | ha
    · rw [if_pos rfl]
    · have h1 := hp.1 a ha
      rw [if_neg, ih hp.2 a ha]
      intro e
      injection e with e
      obtain ⟨h2, h3⟩ := codeA_inj e
      unfold ltA at h1
      simp only [Bool.or_eq_true, Bool.and_eq_true, decide_eq_true_eq, beq_iff_eq] at h1
      omega
theorem angles_comp (G : Good n A) : comp2 (name2 1) yes2 (tup2 (cons2 (op2 idxD (var2 1) (con2 (.int 0))) (cons2 (op2 idxD (var2 1) (con2 (.int 1))) (cons2 (op2 idxD (op2 idxD (var2 0) (con2 (.int 1))) (var2 1)) nil2)))) [some (plan n A), none] ((A.map codeA).map D.str) m = .ok (A.map angD) m := by
  have h : ∀ l : List Ang, (∀ a ∈ l, a ∈ A) → ∀ b, comp2 (name2 1) yes2 (tup2 (cons2 (op2 idxD (var2 1) (con2 (.int 0))) (cons2 (op2 idxD (var2 1) (con2 (.int 1))) (cons2 (op2 idxD (op2 idxD (var2 0) (con2 (.int 1))) (var2 1)) nil2)))) [some (plan n A), b] ((l.map codeA).map D.str) m = .ok (l.map angD) m := by
    intro l
    induction l with
    | nil => intro _ b; rfl
    | cons a l ih =>
      intro hl b
      have e1 := ih (fun x hx => hl x (List.mem_cons_of_mem _ hx)) b
      have e2 := lkp_A G.asc a (hl a List.mem_cons_self)
      have hc : codeA a = [97 + a.1, 97 + a.2.1] := rfl
      simp only [List.map_cons, comp2, name2_ap, Rs.nx_ok, yes2_ap, if_pos]
      rw [hc] at e2
      rw [plan_eq] at e1 ⊢
      simp -implicitDefEqProofs [hc, e2, SZ_val, angD_eq, lc]
      rw [List.map_map] at e1
      rw [e1]
      simp
      exact ⟨rfl, rfl⟩
  exact h A (fun a ha => ha) none
theorem s_law_angles (G : Good n A) : F_law_angles [plan n A] m = .ok (.tup (A.map angD)) m := by
  have hl := asc_len G.n6 G.lt G.asc
  have e : sorted2 [.dct (keysA A) (valsA A)] m = .ok (.lst ((A.map codeA).map D.str)) m := by
    simp [sorted2, keysS_A, sortC_A G.asc]
    omega
  have c := angles_comp (m := m) G
  rw [plan_eq] at c
  simp -implicitDefEqProofs [F_law_angles_eq, tb_law_angles_eq, plan_eq, e]
  rw [List.map_map] at c
  simp -implicitDefEqProofs [c, SZ_val]
  rw [if_pos (by omega)]
  simp -implicitDefEqProofs
theorem s_law_made (G : Good n A) : ∃ m', F_law_made [plan n A] m = .ok (mir n A) m' ∧ Gr m m' := by
  refine ⟨m ++ [.dead], ?_, .dead⟩
  have e := s_law_angles (m := m) G
  have i := s_init (m := m ++ [.ins "Mirrors" [] []]) G m.length (by simp)
  rw [plan_eq] at e
  simp -implicitDefEqProofs [F_law_made_eq, tb_law_made_eq, plan_eq, e, mkD, pick, i, mir_eq]
theorem find_code {x y : Nat} : ∀ A : List Ang, lkp (keysA A) (valsA A) (.s [97 + x, 97 + y]) = (A.find? fun a => a.1 == x && a.2.1 == y).map fun a => .int a.2.2
  | [] => rfl
  | q :: A => by
    have hk : keysA (q :: A) = .s (codeA q) :: keysA A := rfl
    have hv : valsA (q :: A) = .int q.2.2 :: valsA A := rfl
    rw [hk, hv, lkp_cons, find_code A, List.find?_cons]
    by_cases h : q.1 = x ∧ q.2.1 = y
    · rw [if_pos (by rw [show codeA q = [97 + q.1, 97 + q.2.1] from rfl, h.1, h.2])]
      simp [h.1, h.2]
    · rw [if_neg (fun e => by
        injection e with e
        unfold codeA at e
        simp only [List.cons.injEq, and_true] at e
        exact h (by omega))]
      have : (q.1 == x && q.2.1 == y) = false := by
        rw [Bool.eq_false_iff]
        intro e
        simp only [Bool.and_eq_true, beq_iff_eq] at e
        exact h e
      rw [this]
theorem s_law_m (G : Good n A) {x y : Nat} (h : x ≠ y) : F_law_m [plan n A, Lt1 x, Lt1 y] m = .ok (.int (num A x y)) m := by
  have e1 : minF [Lt1 x, Lt1 y] m = .ok (Lt1 (min x y)) m := by
    show Rs.ok (D.str (if ltC (lc y) (lc x) then lc y else lc x)) m = _
    rw [lc_lt]
    by_cases h : y < x
    · simp [h, Nat.min_eq_right (Nat.le_of_lt h)]
    · simp [h, Nat.min_eq_left (Nat.le_of_not_lt h)]
  have e2 : maxF [Lt1 x, Lt1 y] m = .ok (Lt1 (max x y)) m := by
    show Rs.ok (D.str (if ltC (lc x) (lc y) then lc y else lc x)) m = _
    rw [lc_lt]
    by_cases h : x < y
    · simp [h, Nat.max_eq_right (Nat.le_of_lt h)]
    · simp [h, Nat.max_eq_left (Nat.le_of_not_lt h)]
  have hn : ∀ i, (lc i).length = 1 := fun _ => rfl
  have hc : lc (min x y) ++ lc (max x y) = [97 + min x y, 97 + max x y] := rfl
  have f := find_code (x := min x y) (y := max x y) A
  simp -implicitDefEqProofs [F_law_m_eq, tb_law_m_eq, plan_eq, e1, e2, hn, SZ_val, hc, f]
  unfold num
  rw [if_neg h]
  cases A.find? (fun a => a.1 == min x y && a.2.1 == max x y) <;> rfl
end
end K21
namespace K21
open Dn Br Cox
section
variable {n : Nat} {A : List Ang} {m : Mu}
/-- cells stay, more may come -/
def Ex (m m' : Mu) : Prop := ∀ (i : Nat) (c : Cell), m[i]? = some c → m'[i]? = some c
theorem Ex.refl {m : Mu} : Ex m m := fun _ _ h => h
theorem Ex.trans {a b c : Mu} (h : Ex a b) (h' : Ex b c) : Ex a c := fun i x e => h' i x (h i x e)
theorem Gr.ex {m m' : Mu} (g : Gr m m') : Ex m m' := fun _ _ e => g.get e
theorem Ex.len {m m' : Mu} (h : Ex m m') : m.length ≤ m'.length := by
  refine Classical.byContradiction fun hn => ?_
  have h1 : m'.length < m.length := by omega
  have := h m'.length _ (List.getElem?_eq_getElem h1)
  have := mu_lt this
  omega
theorem Ex.ts {r : Nat} {m m' : Mu} (h : Tub m r) (e : Ex m m') : TS r m m' := by
  obtain ⟨a, b, c, h⟩ := h
  exact ⟨⟨a, b, c, e r _ h⟩, fun i x _ hx => e i x hx, e.len⟩
theorem letters6 : ∀ i < 6, indexC (ofS "abcdef") (lc i) = some i := by decide +kernel
theorem rowL_at {k : Nat} (v : Vec) (h : k < (rowL n v).length) : (rowL n v)[k] = .int (v k) := by
  have e := rowL_get (v := v) (show k < n by rw [rowL_len] at h; exact h)
  rw [List.getElem?_eq_getElem h] at e
  injection e
theorem rowL_set {i : Nat} (hi : i < n) (v : Vec) (x : Int) : (rowL n v).set i (.int x) = rowL n (fun k => if k = i then x else v k) := by
  apply List.ext_getElem?
  intro k
  rw [List.getElem?_set]
  by_cases h : i = k
  · subst h
    simp [rowL, hi]
  · rw [if_neg h]
    unfold rowL
    rw [List.getElem?_map, List.getElem?_map]
    by_cases hk : k < n
    · rw [List.getElem?_range hk]
      simp [Ne.symm h]
    · rw [List.getElem?_eq_none (by simpa using hk)]
      rfl
end
end K21
namespace K21
open Dn Br Cox
section
variable {n : Nat} {A : List Ang} {m : Mu}
def rowsD (n : Nat) (A : List Ang) (w : List Nat) : D := .tup ((List.range n).map fun i => RowD n (act n (wt A) w (alpha i)))
theorem rowsD_eq (n : Nat) (A : List Ang) (w : List Nat) : rowsD n A w = .tup ((List.range n).map fun i => RowD n (act n (wt A) w (alpha i))) := (rfl)
/-- a comprehension that keeps I; the k-th item of n gives f k -/
theorem comp_rangeI {g : G2f} {te : Dl → Mu → Rs D} {δ : Dl} {I : Mu → Prop} {f : Nat → D} : ∀ (n : Nat) {m : Mu}, I m →
    (∀ k, k < n → ∀ m, I m → ∃ δ' m', g (.int (k : Int)) δ m = .ok δ' m ∧ te δ' m = .ok (f k) m' ∧ I m') → ∃ m', comp2 g yes2 te δ ((List.range n).map fun (k : Nat) => D.int (k : Int)) m = .ok ((List.range n).map f) m' ∧ I m' := by
  suffices ∀ (l : List Nat) {m : Mu}, I m → (∀ k ∈ l, ∀ m, I m → ∃ δ' m', g (.int (k : Int)) δ m = .ok δ' m ∧ te δ' m = .ok (f k) m' ∧ I m') → ∃ m', comp2 g yes2 te δ (l.map fun (k : Nat) => D.int (k : Int)) m = .ok (l.map f) m' ∧ I m' by
    intro n m hI h
    exact this (List.range n) hI fun k hk => h k (List.mem_range.mp hk)
  intro l
  induction l with
  | nil => intro m hI _; exact ⟨m, rfl, hI⟩
  | cons k l ih =>
    intro m hI h
    obtain ⟨δ', m1, h1, h2, i1⟩ := h k List.mem_cons_self m hI
    obtain ⟨m2, h3, i2⟩ := ih i1 fun x hx => h x (List.mem_cons_of_mem _ hx)
    exact ⟨m2, by simp only [List.map_cons, comp2, h1, Rs.nx_ok, yes2_ap, if_pos, h2, h3], i2⟩
/-- the same, each value told by a relation -/
theorem comp_rangeR {g : G2f} {te : Dl → Mu → Rs D} {δ : Dl} {I : Mu → Prop} {α : Type} [Inhabited α] {ok : α → Prop} {f : α → D} : ∀ (n : Nat) {m : Mu}, I m →
    (∀ k, k < n → ∀ m, I m → ∃ δ' m' a, g (.int (k : Int)) δ m = .ok δ' m ∧ te δ' m = .ok (f a) m' ∧ I m' ∧ ok a) → ∃ (m' : Mu) (as : List α), comp2 g yes2 te δ ((List.range n).map fun (k : Nat) => D.int (k : Int)) m = .ok (as.map f) m' ∧ I m' ∧ as.length = n ∧ ∀ a ∈ as, ok a := by
  suffices ∀ (l : List Nat) {m : Mu}, I m → (∀ k ∈ l, ∀ m, I m → ∃ δ' m' a, g (.int (k : Int)) δ m = .ok δ' m ∧ te δ' m = .ok (f a) m' ∧ I m' ∧ ok a) → ∃ (m' : Mu) (as : List α), comp2 g yes2 te δ (l.map fun (k : Nat) => D.int (k : Int)) m = .ok (as.map f) m' ∧ I m' ∧ as.length = l.length ∧ ∀ a ∈ as, ok a by
    intro n m hI h
    obtain ⟨m', as, h1, h2, h3, h4⟩ := this (List.range n) hI fun k hk => h k (List.mem_range.mp hk)
    exact ⟨m', as, h1, h2, by rw [h3, List.length_range], h4⟩
  intro l
  induction l with
  | nil => intro m hI _; exact ⟨m, [], rfl, hI, rfl, fun a h => by cases h⟩
  | cons k l ih =>
    intro m hI h
    obtain ⟨δ', m1, a, h1, h2, i1, o1⟩ := h k List.mem_cons_self m hI
    obtain ⟨m2, as, h3, i2, l2, o2⟩ := ih i1 fun x hx => h x (List.mem_cons_of_mem _ hx)
    exact ⟨m2, a :: as, by simp only [List.map_cons, comp2, h1, Rs.nx_ok, yes2_ap, if_pos, h2, h3], i2, by simp [l2], fun x hx => by
      rcases List.mem_cons.mp hx with rfl | hx
      · exact o1
      · exact o2 x hx⟩
theorem joinC_nil : ∀ ws : List Nat, joinC [] (ws.map lc) = wc ws
  | [] => rfl
  | [a] => by simp [joinC, lc, wc]
  | a :: b :: ws => by
    have := joinC_nil (b :: ws)
    have e : joinC [] ((a :: b :: ws).map lc) = lc a ++ joinC [] ((b :: ws).map lc) := by
      unfold joinC
      simp [List.intersperse]
    rw [e, this]
    rfl
theorem sum_ones : ∀ w : List Nat, (w.map fun _ => 1).sum = w.length
  | [] => rfl
  | a :: w => by rw [List.map_cons, List.sum_cons, sum_ones w, List.length_cons, Nat.add_comm]
theorem s_law_word {r : Nat} (h : Tub m r) (G : Good n A) {most : Nat} (hm : most ≤ 60) : ∃ w m', F_law_word [.ref r, plan n A, .int most] m = .ok (Wrd w) m' ∧ Lt n w ∧ w.length ≤ most ∧ TS r m m' := by
  have h1 := G.n1
  have h6 := G.n6
  obtain ⟨k, m1, e1, hk0, hk1, t1⟩ := s_sip (top := (most : Int) + 1) h (by omega) (by
    have : (100 : Int) ≤ 2 ^ 200 := by decide +kernel
    omega)
  obtain ⟨K, hK⟩ : ∃ K : Nat, k = (K : Int) := ⟨k.toNat, by omega⟩
  subst hK
  have hs : small62 (K : Int) = true := small62_nat (by omega)
  obtain ⟨m2, w, e2, t2, l2, o2⟩ := comp_rangeR (g := name2 3) (te := op2 idxD (con2 (.str (ofS "abcdef"))) (on2 F_law_sip (cons2 (var2 0) (cons2 (op2 idxD (var2 1) (con2 (.int 0))) nil2)))) (δ := [some (.ref r), some (plan n A), some (.int most), none]) (I := fun m' => TS r m m')
    (f := fun i => Lt1 i) (ok := fun i => i < n) K (m := m1) t1 (fun k _ m1 t1 => by
      obtain ⟨i, m2, e2, hi0, hi1, t2⟩ := s_sip (m := m1) (top := (n : Int)) t1.tub (by omega) (by
        have : (100 : Int) ≤ 2 ^ 200 := by decide +kernel
        omega)
      obtain ⟨I, hI⟩ : ∃ I : Nat, i = (I : Int) := ⟨i.toNat, by omega⟩
      subst hI
      refine ⟨_, m2, I, name2_ap _ _ _ _, ?_, t1.trans t2, by omega⟩
      have a1 := at_letters (show I < 6 by omega)
      simp -implicitDefEqProofs [plan_eq, e2, letters_len, SZ_val, a1]
      rfl)
  refine ⟨w, m2, ?_, fun i hi => o2 i hi, by omega, t2⟩
  have hst := strsOf_fn lc w
  have hj := joinC_nil w
  rw [plan_eq] at e2
  have hsum : ((w.map lc).map (·.length)).sum = w.length := by
    rw [List.map_map]
    have : ((fun x : Cs => x.length) ∘ lc) = fun _ => 1 := rfl
    rw [this]
    exact sum_ones w
  rw [List.map_map] at hsum
  simp -implicitDefEqProofs [F_law_word_eq, tb_law_word_eq, plan_eq, e1, hs, intsFrom_nat, e2, SZ_val, show w.length ≤ 16777216 by omega, hst, show ofS "" = [] from rfl, hj, hsum]
end
end K21
namespace K21
open Dn Br Cox
section
variable {n : Nat} {A : List Ang} {m : Mu}
theorem s_law_tub (ns : List Int) (turn : Nat) (ht : turn < 100) : ∃ m', F_law_tub [.scr ns, .int turn] m = .ok (.ref m.length) m' ∧ Tub m' m.length ∧ Ex m m' := by
  have s1 : small64 39373 = true := small64_of (by decide) (by decide)
  have s2 : small64 83 = true := small64_of (by decide) (by decide)
  have s3 : small64 1019 = true := small64_of (by decide) (by decide)
  obtain ⟨en, hen⟩ : ∃ en : Int, (ifV (bool2 (op2 ltD (var2 1) (on2 lenD (cons2 (var2 0) nil2)))) (on2 intD (cons2 (op2 idxD (var2 0) (var2 1)) nil2)) (op2 addD (op2 mulD (con2 (.int 83)) (var2 1)) (con2 (.int 37)))) [some (.scr ns), some (.int turn), none, none, none] m = .ok (.int en) m := by
    by_cases h : turn < ns.length
    · exact ⟨ns[turn], by simp -implicitDefEqProofs [h]⟩
    · exact ⟨83 * turn + 37, by simp -implicitDefEqProofs [h, s2]⟩
  have L := for_inv (g := name2 4) (tb := (asg2 (op2 modD (on2 intD (cons2 (op2 addD (op2 addD (op2 mulD (var2 3) (con2 (.int 39373))) (op2 modD (on2 intD (cons2 (var2 4) nil2)) (con2 (.int 999883)))) (var2 1)) nil2)) (con2 (.int 2147483563))) (name2 3)))
    (I := fun i δ m' => (∃ (a : Int) (b : Option D), δ = [some (.scr ns), some (.int turn), some (.int en), some (.int a), b]) ∧ m' = m) (ds := (ns.take 8).map D.int) (fun i d δ m' hd hI => by
      obtain ⟨⟨a, b, rfl⟩, rfl⟩ := hI
      rw [List.getElem?_map, Option.map_eq_some_iff] at hd
      obtain ⟨j, hj, rfl⟩ := hd
      refine ⟨_, m', ?_, ⟨(a * 39373 + j % 999883 + turn) % 2147483563, some (.int j), rfl⟩, rfl⟩
      simp -implicitDefEqProofs [s1])
    [some (.scr ns), some (.int turn), some (.int en), some (.int (70001 + 1019 * turn)), none] m ⟨⟨_, none, rfl⟩, rfl⟩
  obtain ⟨δ', m', e, ⟨a, b, rfl⟩, rfl⟩ := L
  obtain ⟨q, hq⟩ : ∃ q : Int, (ifV (bool2 (op2 geD (on2 absD (cons2 (var2 2) nil2)) (op2 powD (con2 (.int 10)) (con2 (.int 18))))) (on2 absD (cons2 (var2 2) nil2)) (con2 (.int 0))) [some (.scr ns), some (.int turn), some (.int en), some (.int ((a * 39373 + en % 999883) % 2147483563)), b] m' = .ok (.int q) m' := by
    simp -implicitDefEqProofs
    by_cases h1 : en < 0
    · by_cases h2 : 1000000000000000000 ≤ -en
      · exact ⟨-en, by simp [h1, h2]⟩
      · exact ⟨0, by simp [h1, h2]⟩
    · by_cases h2 : 1000000000000000000 ≤ en
      · exact ⟨en, by simp [h1, h2]⟩
      · exact ⟨0, by simp [h1, h2]⟩
  refine ⟨m' ++ [.lst [.int q, .int ((a * 39373 + en % 999883) % 2147483563), .int 0]], ?_, ⟨q, (a * 39373 + en % 999883) % 2147483563, 0, by simp⟩, fun i c h => by rw [List.getElem?_append_left (mu_lt h)]; exact h⟩
  rw [List.map_take] at e
  have h0 : start2 5 [D.scr ns, .int turn] = [some (.scr ns), some (.int turn), none, none, none] := rfl
  have hc : cutL ns none (some (8 : Int)) = ns.take 8 := by
    by_cases h : 8 ≤ ns.length
    · exact cut_take ns 8 h
    · unfold cutL
      have z0 : HT.sIx ns.length 0 none = 0 := rfl
      have z1 : HT.sIx ns.length ns.length (some (8 : Int)) = ns.length := by
        unfold HT.sIx
        dsimp only
        split <;> omega
      rw [z0, z1]
      rw [List.take_of_length_le (by simp), List.take_of_length_le (by omega)]
      simp
  rw [F_law_tub_eq, fnD_ap, h0, tb_law_tub_eq]
  simp -implicitDefEqProofs only [seq2_ap, asg2_ap, hen]
  simp -implicitDefEqProofs [-ifV_ap, s3, hc, e, s1]
  rw [hq]
  simp -implicitDefEqProofs [SZ_val]
end
end K21
namespace K21
open Dn Br Cox
section
variable {n : Nat} {A : List Ang} {m : Mu}
def dig (k : Int) : Nat := 48 + k.toNat
def wordA (a : Ang) : Cs := [97 + a.1, 97 + a.2.1, dig a.2.2]
theorem kk_get {k : Int} (h : k = 3 ∨ k = 4 ∨ k = 6 ∨ k = 0) : lkp kk_NUMBERS kv_NUMBERS (.s [dig k]) = some (.int k) := by
  have e : kk_NUMBERS = [.s [51], .s [52], .s [54], .s [48]] := by
    unfold kk_NUMBERS
    rw [show ofS "3" = [51] from by decide +kernel, show ofS "4" = [52] from by decide +kernel, show ofS "6" = [54] from by decide +kernel, show ofS "0" = [48] from by decide +kernel]
  rw [e]
  rcases h with rfl | rfl | rfl | rfl <;> simp [kv_NUMBERS, dig]
theorem words_ok (G : Good n A) (δ : Dl) (hl : δ.length = 5) : comp2 (name2 4) yes2 (andV (op2 eqD (on2 lenD (cons2 (var2 4) nil2)) (con2 (.int 3))) (un2 (kinD kk_NUMBERS kv_NUMBERS) (op2 idxD (var2 4) (con2 (.int 2))))) δ (A.map fun a => .str (wordA a)) m = .ok (A.map fun _ => .bl true) m := by
  have := comp_mapP (g := name2 4) (te := (andV (op2 eqD (on2 lenD (cons2 (var2 4) nil2)) (con2 (.int 3))) (un2 (kinD kk_NUMBERS kv_NUMBERS) (op2 idxD (var2 4) (con2 (.int 2)))))) (δ := δ) (m := m) (f := fun _ => .bl true) (ds := A.map fun a => D.str (wordA a)) (fun d hd => by
    obtain ⟨a, ha, rfl⟩ := List.mem_map.mp hd
    have hk := kk_get (G.nu a ha)
    have hw : wordA a = [97 + a.1, 97 + a.2.1, dig a.2.2] := rfl
    refine ⟨_, name2_ap _ _ _ _, ?_⟩
    simp -implicitDefEqProofs [hw, hk, SZ_val, show 4 < δ.length from by omega])
  rw [this, List.map_map]
  rfl
theorem words_get (G : Good n A) (δ : Dl) (hl : δ.length = 5) : comp2 (name2 4) yes2 (tup2 (cons2 (op2 idxD (var2 4) (con2 (.int 0))) (cons2 (op2 idxD (var2 4) (con2 (.int 1))) (cons2 (un2 (kgetD kk_NUMBERS kv_NUMBERS) (op2 idxD (var2 4) (con2 (.int 2)))) nil2)))) δ (A.map fun a => .str (wordA a)) m = .ok (A.map angD) m := by
  have h : ∀ l : List Ang, (∀ a ∈ l, a ∈ A) → comp2 (name2 4) yes2 (tup2 (cons2 (op2 idxD (var2 4) (con2 (.int 0))) (cons2 (op2 idxD (var2 4) (con2 (.int 1))) (cons2 (un2 (kgetD kk_NUMBERS kv_NUMBERS) (op2 idxD (var2 4) (con2 (.int 2)))) nil2)))) δ (l.map fun a => .str (wordA a)) m = .ok (l.map angD) m := by
    intro l
    induction l with
    | nil => intro _; rfl
    | cons a l ih =>
      intro hl2
      have e1 := ih fun x hx => hl2 x (List.mem_cons_of_mem _ hx)
      have hk := kk_get (G.nu a (hl2 a List.mem_cons_self))
      have hw : wordA a = [97 + a.1, 97 + a.2.1, dig a.2.2] := rfl
      simp only [List.map_cons, comp2, name2_ap, Rs.nx_ok, yes2_ap, if_pos]
      simp -implicitDefEqProofs [hw, hk, SZ_val, show 4 < δ.length from by omega, angD_eq, e1]
      exact ⟨rfl, rfl⟩
  exact h A fun a ha => ha
theorem s_parts_in (G : Good n A) {x : Cs} (hx : splitC x (ofS " ") = wc (List.range n) :: A.map wordA) (hl : x.length ≤ 1000) : F_parts_in [.str x] m = .ok (.tup [.int n, .tup (A.map angD)]) m := by
  have h1 := G.n1
  have h6 := G.n6
  have e1 := fun a b c => words_ok (m := m) G [some (.str x), a, b, c, none] rfl
  have e2 := fun a b c => words_get (m := m) G [some (.str x), a, b, c, none] rfl
  have hf : (fun a => D.str (wordA a)) = D.str ∘ wordA := rfl
  rw [hf] at e1 e2
  have hA := asc_len G.n6 G.lt G.asc
  have hs : (ofS " ").length = 1 := by decide +kernel
  have hb := blsOf_fn (fun _ : Ang => true) A
  have hc : ∀ (d : D) (ds : List D), cutL (d :: ds) (some (1 : Int)) none = ds := fun d ds => by
    have := cut_drop (d :: ds) 1
    simpa using this
  have hlen : (wc (List.range n)).length = n := by simp [wc]
  have q : eqB m (.str (wc (List.range n))) (.str (wc (List.range n))) = some true := by
    have ok : (wc (List.range n)).all (· < 1114112) = true := by
      rw [List.all_eq_true]
      intro c hc
      obtain ⟨i, hi, rfl⟩ := List.mem_map.mp hc
      have := List.mem_range.mp hi
      exact decide_eq_true (by omega)
    rw [eqB_ss m _ _ ok ok]
    simp
  simp -implicitDefEqProofs [F_parts_in_eq, tb_parts_in_eq, SZ_val, hs, hx, show x.length + 2 ≤ 16777216 by omega, hlen, h1, h6, ofS_letters, wc_take n (by omega), q, hc, e1, e2, hb, s_angles_fault G, show n ≤ 16777216 from by omega, show A.length ≤ 16777216 from by omega, show (1 : Int) ≤ (n : Int) from by omega, show (n : Int) ≤ 6 from by omega, wc_len]
end
end K21
namespace K21
open Dn Br Cox
section
variable {n : Nat} {A : List Ang} {m : Mu}
theorem s_read (G : Good n A) {x : Cs} (hx : splitC x (ofS " ") = wc (List.range n) :: A.map wordA) (hl : x.length ≤ 1000) : Pu (F_Mirrors_read [.glo "Mirrors", .str x]) (mir n A) := by
  intro m
  refine ⟨m ++ [.dead], ?_, .dead⟩
  have e := s_parts_in (m := m) G hx hl
  have i := s_init (m := m ++ [.ins "Mirrors" [] []]) G m.length (by simp)
  simp -implicitDefEqProofs [F_Mirrors_read_eq, tb_Mirrors_read_eq, e, mkD, pick, i, mir_eq]
end
end K21
namespace K21
open Dn Br Cox
section
variable {n : Nat} {A : List Ang} {m : Mu}
theorem row_nm (v : Vec) : Nm 1 (RowD n v) := .tup fun d hd => by
  simp only [rowL, List.mem_map] at hd
  obtain ⟨k, _, rfl⟩ := hd
  exact .int
theorem zip3_range (n : Nat) (f g h : Nat → D) : zip3L ((List.range n).map f) ((List.range n).map g) ((List.range n).map h) = (List.range n).map fun k => D.tup [f k, g k, h k] := by
  unfold zip3L
  have e : List.zip ((List.range n).map g) ((List.range n).map h) = (List.range n).map fun k => (g k, h k) := zip_range n g h Prod.mk
  rw [e, zip_range]
/-- the first letter whose single row is sent unlike -/
inductive Unl (n : Nat) (A : List Ang) (w u : List Nat) : D → Prop
  | at {i : Nat} : i < n → RowD n (act n (wt A) w (alpha i)) ≠ RowD n (act n (wt A) u (alpha i)) → (∀ j, j < i → RowD n (act n (wt A) w (alpha j)) = RowD n (act n (wt A) u (alpha j))) → Unl n A w u (Lt1 i)
  | no : (∀ j, j < n → RowD n (act n (wt A) w (alpha j)) = RowD n (act n (wt A) u (alpha j))) → Unl n A w u .non
theorem range_get {n i k : Nat} (h : (List.range n)[i]? = some k) : i < n ∧ k = i := by
  by_cases q : i < n
  · rw [List.getElem?_range q] at h
    exact ⟨q, (Option.some.inj h).symm⟩
  · rw [List.getElem?_eq_none (by simpa using q)] at h
    cases h
theorem Unl.same {w u : List Nat} {a b : D} (h : Unl n A w u a) (h' : Unl n A w u b) : a = b := by
  cases h with
  | @«at» i h1 h2 h3 =>
    cases h' with
    | @«at» j g1 g2 g3 =>
      have : i = j := by
        rcases Nat.lt_trichotomy i j with q | q | q
        · exact absurd (g3 i q) h2
        · exact q
        · exact absurd (h3 j q) g2
      rw [this]
    | no g => exact absurd (g i h1) h2
  | no h =>
    cases h' with
    | «at» g1 g2 _ => exact absurd (h _ g1) g2
    | no _ => rfl
theorem eqv_rows {w u : List Nat} (hw : Lt n w) (hu : Lt n u) : Eqv n (wt A) w u ↔ ∀ j, j < n → RowD n (act n (wt A) w (alpha j)) = RowD n (act n (wt A) u (alpha j)) := by
  rw [eqv_iff hw hu]
  constructor
  · intro h j hj
    rw [RowD, RowD, rowL_congr (h j hj)]
  · intro h j hj
    have := h j hj
    injection this with this
    exact rowL_inj this
end
end K21
namespace K21
open Dn Br Cox
section
variable {n : Nat} {A : List Ang} {m : Mu}
theorem cut_mid {α : Type} (xs : List α) (a b : Nat) : cutL xs (some (a : Int)) (some ((a : Int) + (b : Int))) = (xs.drop a).take b := by
  unfold cutL
  have h0 : HT.sIx xs.length 0 (some (a : Int)) = min a xs.length := by
    unfold HT.sIx
    dsimp only
    split <;> omega
  have h1 : HT.sIx xs.length xs.length (some ((a : Int) + (b : Int))) = min (a + b) xs.length := by
    unfold HT.sIx
    dsimp only
    split <;> omega
  rw [h0, h1]
  by_cases h : a ≤ xs.length
  · rw [Nat.min_eq_left h]
    by_cases h2 : a + b ≤ xs.length
    · rw [Nat.min_eq_left h2, Nat.add_sub_cancel_left]
    · rw [Nat.min_eq_right (by omega), List.take_of_length_le (by simp), List.take_of_length_le (by simp; omega)]
  · have hmn : min a xs.length = xs.length := by omega
    rw [hmn, List.drop_length, List.drop_eq_nil_of_le (by omega), List.take_nil, List.take_nil]
theorem cut_from {α : Type} (xs : List α) (a b : Nat) : cutL xs (some ((a : Int) + (b : Int))) none = xs.drop (a + b) := by
  have := cut_drop xs (a + b)
  rwa [Int.natCast_add] at this
theorem wc_app (a b : List Nat) : wc a ++ wc b = wc (a ++ b) := by simp [wc]
theorem fold_lc (i : Nat) : ([97 + i] : Cs) = lc i := rfl
theorem lc_wc (i : Nat) : lc i = wc [i] := rfl
theorem wc_pw (w : List Nat) : ∀ k, (List.replicate k (wc w)).flatten = wc (pw w k)
  | 0 => rfl
  | k + 1 => by rw [pw_succ, ← wc_app, ← wc_pw w k]; rfl
theorem wc_tk (w : List Nat) (k : Nat) : (wc w).take k = wc (w.take k) := by simp [wc]
theorem wc_dp (w : List Nat) (k : Nat) : (wc w).drop k = wc (w.drop k) := by simp [wc]
theorem cutS_take (w : List Nat) (k : Nat) (h : k ≤ w.length) : cutL (wc w) none (some (k : Int)) = wc (w.take k) := by
  rw [cut_take _ _ (by rw [wc_len]; exact h), wc_tk]
theorem cutS_drop (w : List Nat) (k : Nat) : cutL (wc w) (some (k : Int)) none = wc (w.drop k) := by
  rw [cut_drop, wc_dp]
theorem wc_ok {w : List Nat} (h : ∀ i ∈ w, i < 26) : (wc w).all (· < 1114112) = true := by
  rw [List.all_eq_true]
  intro c hc
  obtain ⟨i, hi, rfl⟩ := List.mem_map.mp hc
  have := h i hi
  simp
  omega
theorem eqB_wc {a b : List Nat} (ha : ∀ i ∈ a, i < 26) (hb : ∀ i ∈ b, i < 26) : eqB m (Wrd a) (Wrd b) = some (decide (a = b)) := by
  rw [eqB_ss m (wc a) (wc b) (wc_ok ha) (wc_ok hb)]
  by_cases h : a = b
  · subst h; simp
  · have : wc a ≠ wc b := fun e => h (wc_inj e)
    simp [h, this]
theorem wc_get {w : List Nat} {k : Nat} (h : k < w.length) : (wc w)[k]? = some (97 + w.getD k 0) := by
  simp [wc, h]
theorem Lt.l26 {w : List Nat} (G : Good n A) (h : Lt n w) : ∀ i ∈ w, i < 26 := fun i hi => by
  have := h i hi
  have := G.n6
  omega
def body_turns : Dl → Mu → Ro := (seq2 (par2 4 5 (cons2 (op2 idxD (var2 1) (var2 3)) (cons2 (op2 idxD (var2 1) (op2 addD (var2 3) (con2 (.int 1)))) nil2)))
      (seq2 (asg2 (ifV (bool2 (op2 neD (var2 4) (var2 5))) (on2 F_law_m (cons2 (var2 0) (cons2 (var2 4) (cons2 (var2 5) nil2)))) (con2 (.int 0))) (name2 6))
      (if2 (andT (bool2 (op2 gtD (var2 6) (con2 (.int 0)))) (bool2 (op2 eqD (slc2 (var2 1) (part2 (var2 3)) (part2 (op2 addD (var2 3) (var2 6)))) (slc2 (op2 mulD (op2 addD (var2 4) (var2 5)) (con2 (.int 3))) noPart2 (part2 (var2 6))))))
      (expr2 (bm2 "list" appendM (var2 2) (cons2 (op2 addD (op2 addD (slc2 (var2 1) noPart2 (part2 (var2 3))) (slc2 (op2 mulD (op2 addD (var2 5) (var2 4)) (con2 (.int 3))) noPart2 (part2 (var2 6)))) (slc2 (var2 1) (part2 (op2 addD (var2 3) (var2 6))) noPart2)) nil2)))
      nop2)))
theorem pw3_len (x y : Nat) : (pw [x, y] 3).length = 6 := rfl
theorem turns_step (G : Good n A) {w : List Nat} (hw : Lt n w) (hl : w.length ≤ 60) {k : Nat} (hk : k + 1 < w.length) {acc : List D} (ha : acc.length ≤ 1000) (a4 a5 a6 : Option D) :
    ∃ b4 b5 b6, body_turns [some (plan n A), some (Wrd w), some (.ref m.length), some (.int (k : Nat)), a4, a5, a6] (m ++ [.lst acc]) = .next [some (plan n A), some (Wrd w), some (.ref m.length), some (.int (k : Nat)), b4, b5, b6] (m ++ [.lst (acc ++ (match turnAt A w k with | some u => [Wrd u] | none => []))]) := by
  have h6 := G.n6
  have g1 := wc_get (w := w) (k := k) (by omega)
  have g2 := wc_get (w := w) (k := k + 1) hk
  have hx : w.getD k 0 ∈ w := getD_mem (by omega)
  have hy : w.getD (k + 1) 0 ∈ w := getD_mem hk
  unfold turnAt
  generalize w.getD k 0 = x at *
  generalize w.getD (k + 1) 0 = y at *
  have lx := hw x hx
  have ly := hw y hy
  have q : ∀ m, eqB m (Lt1 x) (Lt1 y) = some (decide (x = y)) := fun m => by
    rw [eqB_ss m (lc x) (lc y) (lc_ok (by omega)) (lc_ok (by omega)), lc_beq]
  have q' : ∀ m, eqB m (.str (wc [x])) (.str (wc [y])) = some (decide (x = y)) := q
  have at1 : L2.atI (wc w) ((k : Int) + 1) = some (97 + y) := by
    have := atI_nat (wc w) (k + 1)
    rw [g2] at this
    rw [← this, Int.natCast_add]
    rfl
  have l1 : w.length ≤ 16777216 := by omega
  by_cases hxy : x = y
  · subst hxy
    have hm0 : mm A x x = 0 := by simp [mm]
    rw [hm0]
    refine ⟨some (.str (wc [x])), some (.str (wc [x])), some (.int 0), ?_⟩
    rw [decide_eq_true rfl] at q'
    simp -implicitDefEqProofs [body_turns, wc_len, SZ_val, l1, g1, at1, fold_lc, lc_wc, q']
  · have hm := s_law_m (m := m ++ [.lst acc]) G hxy
    have hm : F_law_m [plan n A, .str (wc [x]), .str (wc [y])] (m ++ [.lst acc]) = .ok (.int (num A x y)) (m ++ [.lst acc]) := hm
    rw [decide_eq_false hxy] at q'
    have hn := num_in G hxy
    obtain ⟨M, hM⟩ : ∃ M : Nat, num A x y = (M : Int) := ⟨(num A x y).toNat, by omega⟩
    have hmm : mm A x y = M := by simp [mm, hxy, hM]
    have hM6 : M ≤ 6 := by omega
    rw [hM] at hm
    rw [hmm]
    have c1 := cut_mid (wc w) k M
    rw [wc_dp, wc_tk] at c1
    have c2 : cutL (wc [x, y, x, y, x, y]) none (some (M : Int)) = wc ((pw [x, y] 3).take M) := cutS_take (pw [x, y] 3) M (by rw [pw3_len]; exact hM6)
    have c3 : cutL (wc [y, x, y, x, y, x]) none (some (M : Int)) = wc ((pw [y, x] 3).take M) := cutS_take (pw [y, x] 3) M (by rw [pw3_len]; exact hM6)
    have c4 := cutS_take w k (by omega)
    have c5 := cut_from (wc w) k M
    rw [wc_dp] at c5
    have z1 : ((w.drop k).take M).length ≤ 60 := by simp; omega
    have lw26 := Lt.l26 G hw
    have e1 : eqB (m ++ [.lst acc]) (.str (wc ((w.drop k).take M))) (.str (wc ((pw [x, y] 3).take M))) = some (decide ((w.drop k).take M = (pw [x, y] 3).take M)) := eqB_wc (fun i hi => lw26 i (List.mem_of_mem_drop (List.mem_of_mem_take hi))) (fun i hi => by
      have := List.mem_of_mem_take hi
      have h2 : i = x ∨ i = y ∨ i = x ∨ i = y ∨ i = x ∨ i = y := by simpa [pw] using this
      omega)
    have p1 := wc_pw [x, y] 3
    have p2 := wc_pw [y, x] 3
    have z4 : min k w.length ≤ 16777216 := by omega
    have z5 : min k w.length + min M 6 ≤ 16777216 := by omega
    have z6 : min k w.length + min M 6 + (w.length - (k + M)) ≤ 16777216 := by omega
    have z7 : acc.length < 16777216 := by omega
    refine ⟨some (.str (wc [x])), some (.str (wc [y])), some (.int M), ?_⟩
    by_cases h0 : 0 < M
    · by_cases he : (w.drop k).take M = (pw [x, y] 3).take M
      · rw [if_pos ⟨h0, he⟩]
        rw [decide_eq_true he] at e1
        simp -implicitDefEqProofs [body_turns, wc_len, SZ_val, l1, g1, at1, fold_lc, lc_wc, q', hm, h0, c1, c2, c3, c4, c5, wc_app, p1, p2, pw3_len, e1, z4, z5, z6, z7]
      · rw [if_neg fun z => he z.2]
        rw [decide_eq_false he] at e1
        simp -implicitDefEqProofs [body_turns, wc_len, SZ_val, l1, g1, at1, fold_lc, lc_wc, q', hm, h0, c1, c2, c3, c4, c5, wc_app, p1, p2, pw3_len, e1]
    · rw [if_neg fun z => h0 z.1]
      simp -implicitDefEqProofs [body_turns, wc_len, SZ_val, l1, g1, at1, fold_lc, lc_wc, q', hm, h0]
end
end K21
namespace K21
open Dn Br Cox
section
variable {n : Nat} {A : List Ang} {m : Mu}
theorem s_law_turns (G : Good n A) {w : List Nat} (hw : Lt n w) (hl : w.length ≤ 60) : ∃ m', F_law_turns [plan n A, Wrd w] m = .ok (.lst ((turnsL A w).map fun u => Wrd u)) m' ∧ Gr m m' := by
  have L := for_on (g := name2 3) (tb := body_turns) (p := fun (k : Nat) => D.int (k : Int)) (l := List.range (w.length - 1))
    (I := fun i δ m' => (∃ x3 x4 x5 x6, δ = [some (plan n A), some (Wrd w), some (.ref m.length), x3, x4, x5, x6]) ∧ m' = m ++ [.lst (((List.range i).filterMap (turnAt A w)).map fun u => Wrd u)])
    (fun i k δ m' hk hI => by
      obtain ⟨⟨x3, x4, x5, x6, rfl⟩, rfl⟩ := hI
      obtain ⟨hi, rfl⟩ := range_get hk
      have hlen : (((List.range k).filterMap (turnAt A w)).map fun u => Wrd u).length ≤ 1000 := by
        rw [List.length_map]
        have := List.length_filterMap_le (turnAt A w) (List.range k)
        rw [List.length_range] at this
        omega
      obtain ⟨b4, b5, b6, e⟩ := turns_step (m := m) G hw hl (k := k) (by omega) hlen x4 x5 x6
      refine ⟨_, _, .inl e, ⟨some (.int (k : Nat)), b4, b5, b6, rfl⟩, ?_⟩
      · rw [List.range_succ, List.filterMap_append, List.map_append]
        cases hq : turnAt A w k <;> simp [hq])
    [some (plan n A), some (Wrd w), some (.ref m.length), none, none, none, none] (m ++ [.lst []]) ⟨⟨none, none, none, none, rfl⟩, rfl⟩
  obtain ⟨δ', m', e, ⟨x3, x4, x5, x6, rfl⟩, rfl⟩ := L
  rw [List.length_range] at e
  refine ⟨m ++ [.dead], ?_, .dead⟩
  have ej : ((w.length : Int) - 1).toNat = w.length - 1 := by omega
  have hs : small62 ((w.length : Int) - 1) = true := small62_of (by omega) (by omega)
  unfold body_turns at e
  simp -implicitDefEqProofs [F_law_turns_eq, tb_law_turns_eq, wc_len, SZ_val, show w.length ≤ 16777216 by omega, hs, intsFrom_nat, ej, e, turnsL]
theorem s_law_strikes (G : Good n A) {w : List Nat} (hw : Lt n w) (hl : w.length ≤ 60) : F_law_strikes [Wrd w] m = .ok (.lst ((strikesL w).map fun u => Wrd u)) m := by
  have l26 := Lt.l26 G hw
  obtain ⟨m', e, rfl⟩ := comp_flt (g := name2 1) (tt := bool2 (op2 eqD (op2 idxD (var2 0) (var2 1)) (op2 idxD (var2 0) (op2 addD (var2 1) (con2 (.int 1)))))) (te := op2 addD (slc2 (var2 0) noPart2 (part2 (var2 1))) (slc2 (var2 0) (part2 (op2 addD (var2 1) (con2 (.int 2)))) noPart2))
    (δ := [some (Wrd w), none]) (I := fun m' => m' = m) (p := fun (k : Nat) => D.int (k : Int)) (q := fun k => Wrd (strikeAt w k)) (b := strikeB w) (List.range (w.length - 1)) (m := m) rfl (fun k hk m' hm => by
      subst hm
      have hk := List.mem_range.mp hk
      have g1 := wc_get (w := w) (k := k) (by omega)
      have g2 := wc_get (w := w) (k := k + 1) (by omega)
      have at1 : L2.atI (wc w) ((k : Int) + 1) = some (97 + w.getD (k + 1) 0) := by
        have := atI_nat (wc w) (k + 1)
        rw [g2] at this
        rw [← this, Int.natCast_add]
        rfl
      have hx := l26 _ (getD_mem (w := w) (k := k) (by omega))
      have hy := l26 _ (getD_mem (w := w) (k := k + 1) (by omega))
      have q : eqB m' (.str (wc [w.getD k 0])) (.str (wc [w.getD (k + 1) 0])) = some (decide (w.getD k 0 = w.getD (k + 1) 0)) := by
        have : eqB m' (Lt1 (w.getD k 0)) (Lt1 (w.getD (k + 1) 0)) = some (decide (w.getD k 0 = w.getD (k + 1) 0)) := by
          rw [eqB_ss m' (lc _) (lc _) (lc_ok hx) (lc_ok hy), lc_beq]
        exact this
      have l1 : w.length ≤ 16777216 := by omega
      have c1 := cutS_take w k (by omega)
      have c2 := cut_from (wc w) k 2
      rw [wc_dp] at c2
      have c2 : cutL (wc w) (some ((k : Int) + 2)) none = wc (w.drop (k + 2)) := c2
      refine ⟨_, m', name2_ap _ _ _ _, ?_, rfl, fun _ => ⟨m', ?_, rfl⟩⟩
      · have hb : strikeB w k = decide (w.getD k 0 = w.getD (k + 1) 0) := rfl
        rw [hb]
        generalize w.getD k 0 = x at *
        generalize w.getD (k + 1) 0 = y at *
        simp -implicitDefEqProofs [SZ_val, wc_len, l1, g1, at1, fold_lc, lc_wc, q]
      · have z1 : min k w.length + (w.length - (k + 2)) ≤ 16777216 := by omega
        simp -implicitDefEqProofs [SZ_val, wc_len, l1, c1, c2, wc_app, z1, strikeAt])
  have ej : ((w.length : Int) - 1).toNat = w.length - 1 := by omega
  have hs : small62 ((w.length : Int) - 1) = true := small62_of (by omega) (by omega)
  have hle : ((List.range (w.length - 1)).filter (strikeB w)).length ≤ 16777216 := by
    have := List.length_filter_le (strikeB w) (List.range (w.length - 1))
    rw [List.length_range] at this
    omega
  simp -implicitDefEqProofs [F_law_strikes_eq, tb_law_strikes_eq, wc_len, SZ_val, show w.length ≤ 16777216 by omega, hs, intsFrom_nat, ej, e, hle, strikesL]
/-! all that a word is turned into -/
def keyW (u : List Nat) : DKey := .s (wc u)
theorem keyW_inj {a b : List Nat} (h : keyW a = keyW b) : a = b := by
  unfold keyW at h
  injection h with h
  exact wc_inj h
theorem keyW_nodup {F : List (List Nat)} (h : F.Nodup) : (F.map keyW).Nodup := List.Pairwise.map keyW (fun a b hab e => hab (keyW_inj e)) h
theorem lkp_keyW (u : List Nat) : ∀ F : List (List Nat), (lkp (F.map keyW) (F.map fun _ => D.bl true) (keyW u)).isSome = decide (u ∈ F)
  | [] => rfl
  | x :: F => by
    rw [List.map_cons, List.map_cons, lkp_cons]
    by_cases h : x = u
    · subst h; simp
    · have : keyW x ≠ keyW u := fun e => h (keyW_inj e)
      rw [if_neg this, lkp_keyW u F]
      simp [Ne.symm h]
theorem Ex.set {m m' : Mu} {r : Nat} {c : Cell} (h : Ex m m') (hr : m.length ≤ r) : Ex m (m'.set r c) := fun i x e => by
  have := mu_lt e
  rw [List.getElem?_set_ne (by omega)]
  exact h i x e
/-- the cells of the words found and known -/
structure Fk (m : Mu) (r : Nat) (F : List (List Nat)) (m' : Mu) : Prop where
  ex : Ex m m'
  fo : m'[r]? = some (.lst (F.map fun u => Wrd u))
  kn : m'[r + 1]? = some (.dct (F.map keyW) (F.map fun _ => .bl true))
def body_in : Dl → Mu → Ro := (if2 (bool2 (op2 notInD (var2 6) (var2 4)))
      (seq2 (asg2 (con2 (.bl true)) (subG (var2 4) (var2 6)))
      (expr2 (bm2 "list" appendM (var2 2) (cons2 (var2 6) nil2))))
      nop2)
theorem dput_newW : ∀ {ks : List DKey} {vs : List D} {k : DKey} {d : D}, ks.length = vs.length → k ∉ ks → dput ks vs k d = (ks ++ [k], vs ++ [d])
  | [], [], _, _, _, _ => rfl
  | k0 :: ks, v :: vs, k, d, h, hn => by
    simp only [List.mem_cons, not_or] at hn
    unfold dput
    rw [if_neg (Ne.symm hn.1), dput_newW (by simpa using h) hn.2]
    rfl
theorem in_step {w u : List Nat} {r i : Nat} {F : List (List Nat)} {m' : Mu} (hr : m.length ≤ r) (hF : F.Nodup) (hb : F.length ≤ 1000000) (K : Fk m r F m') (x5 : Option D) :
    ∃ F' m'', body_in [some (plan n A), some (Wrd w), some (.ref r), some (.int (i : Nat)), some (.ref (r + 1)), x5, some (Wrd u)] m' = .next [some (plan n A), some (Wrd w), some (.ref r), some (.int (i : Nat)), some (.ref (r + 1)), x5, some (Wrd u)] m'' ∧ Fk m r F' m'' ∧ F'.Nodup ∧ (∃ more, F' = F ++ more) ∧ u ∈ F' ∧ ∀ x ∈ F', x ∈ F ∨ x = u := by
  have hk := lkp_keyW u F
  have hkw : keyW u = .s (wc u) := rfl
  by_cases h : u ∈ F
  · rw [decide_eq_true h, hkw] at hk
    refine ⟨F, m', ?_, K, hF, ⟨[], by simp⟩, h, fun x hx => .inl hx⟩
    simp -implicitDefEqProofs [body_in, K.kn, inK1, hk]
  · rw [decide_eq_false h, hkw] at hk
    have hn : keyW u ∉ F.map keyW := fun z => by
      obtain ⟨x, hx, e⟩ := List.mem_map.mp z
      rw [keyW_inj e] at hx
      exact h hx
    have hp := dput_newW (ks := F.map keyW) (vs := F.map fun _ => D.bl true) (k := keyW u) (d := .bl true) (by simp) hn
    rw [hkw] at hp
    have nd := keyW_nodup hF
    have hlt := mu_lt K.kn
    have hlt0 := mu_lt K.fo
    have c1 : (m'.set (r + 1) (.dct (F.map keyW ++ [.s (wc u)]) ((F.map fun _ => D.bl true) ++ [.bl true])))[r]? = some (.lst (F.map fun u => Wrd u)) := by
      rw [List.getElem?_set_ne (by omega)]
      exact K.fo
    refine ⟨F ++ [u], (m'.set (r + 1) (.dct (F.map keyW ++ [.s (wc u)]) ((F.map fun _ => D.bl true) ++ [.bl true]))).set r (.lst ((F.map fun u => Wrd u) ++ [Wrd u])), ?_, ⟨(K.ex.set (by omega)).set hr, ?_, ?_⟩, ?_, ⟨[u], rfl⟩, by simp, fun x hx => by simpa using hx⟩
    · simp -implicitDefEqProofs [body_in, K.kn, inK1, hk, SZ_val, show F.length < 16777216 by omega, nd, hp, c1]
    · rw [List.getElem?_set_self (by rw [List.length_set]; exact hlt0)]
      simp
    · rw [List.getElem?_set_ne (by omega), List.getElem?_set_self hlt]
      simp [keyW]
    · rw [List.nodup_append]
      exact ⟨hF, by simp, fun a ha b hb e => by simp at hb; subst hb; exact h (e ▸ ha)⟩
end
end K21
namespace K21
open Dn Br Cox
section
variable {n : Nat} {A : List Ang} {m : Mu}
theorem Gr.fk {r : Nat} {F : List (List Nat)} {m' m'' : Mu} (g : Gr m' m'') (K : Fk m r F m') : Fk m r F m'' := ⟨K.ex.trans (Gr.ex g), g.get K.fo, g.get K.kn⟩
theorem in_all {w : List Nat} {r i : Nat} (hr : m.length ≤ r) (N : Nat) (hN : N ≤ 1000000) (x5 : Option D) (l : List (List Nat)) (ok : List Nat → Prop) (hok : ∀ F : List (List Nat), F.Nodup → (∀ x ∈ F, ok x) → F.length ≤ N) (hl : ∀ u ∈ l, ok u)
    {F : List (List Nat)} (hF : F.Nodup) (hFo : ∀ x ∈ F, ok x) {m' : Mu} (K : Fk m r F m') (x6 : Option D) :
    ∃ (F' : List (List Nat)) (y6 : Option D) (m'' : Mu), for2 (name2 6) body_in (l.map fun u => Wrd u) [some (plan n A), some (Wrd w), some (.ref r), some (.int (i : Nat)), some (.ref (r + 1)), x5, x6] m' = .next [some (plan n A), some (Wrd w), some (.ref r), some (.int (i : Nat)), some (.ref (r + 1)), x5, y6] m'' ∧ Fk m r F' m'' ∧ F'.Nodup ∧ (∃ more, F' = F ++ more) ∧ (∀ u ∈ l, u ∈ F') ∧ ∀ x ∈ F', x ∈ F ∨ x ∈ l := by
  have L := for_on (g := name2 6) (tb := body_in) (p := fun (u : List Nat) => Wrd u) (l := l)
    (I := fun j δ m'' => ∃ (F' : List (List Nat)) (y6 : Option D), δ = [some (plan n A), some (Wrd w), some (.ref r), some (.int (i : Nat)), some (.ref (r + 1)), x5, y6] ∧ Fk m r F' m'' ∧ F'.Nodup ∧ (∃ more, F' = F ++ more) ∧ (∀ j', j' < j → ∀ u, l[j']? = some u → u ∈ F') ∧ ∀ x ∈ F', x ∈ F ∨ x ∈ l)
    (fun j u δ m1 hu hI => by
      obtain ⟨F', y6, rfl, K1, nd, ⟨more, hm⟩, hin, hfr⟩ := hI
      have hub := List.mem_of_getElem? hu
      have hb := hok F' nd fun x hx => (hfr x hx).elim (hFo x) (hl x)
      obtain ⟨F2, m2, e, K2, nd2, ⟨more2, hm2⟩, hu2, hfr2⟩ := in_step (n := n) (A := A) (w := w) (u := u) (i := i) hr nd (by omega) K1 x5
      refine ⟨_, m2, .inl e, F2, some (Wrd u), rfl, K2, nd2, ⟨more ++ more2, by rw [hm2, hm, List.append_assoc]⟩, fun j' hj' u' hu' => ?_, fun x hx => ?_⟩
      · by_cases hjj : j' = j
        · subst hjj
          rw [hu] at hu'
          rw [← Option.some.inj hu']
          exact hu2
        · rw [hm2]
          exact List.mem_append_left _ (hin j' (by omega) u' hu')
      · rcases hfr2 x hx with h | h
        · exact hfr x h
        · rw [h]; exact .inr hub)
    [some (plan n A), some (Wrd w), some (.ref r), some (.int (i : Nat)), some (.ref (r + 1)), x5, x6] m' ⟨F, x6, rfl, K, hF, ⟨[], by simp⟩, fun j' hj' => by omega, fun x hx => .inl hx⟩
  obtain ⟨δ', m'', e, F', y6, rfl, K', nd, hm, hin, hfr⟩ := L
  refine ⟨F', y6, m'', e, K', nd, hm, fun u hu => ?_, hfr⟩
  obtain ⟨j, hj, e⟩ := List.getElem_of_mem hu
  exact hin j hj u (by rw [List.getElem?_eq_getElem hj, e])
theorem turns_all {w : List Nat} {F : List (List Nat)} (G : Good n A) (hw : Lt n w) (h0 : w ∈ F) (h1 : ∀ u ∈ F, Turns n (wt A) w u) (h2 : ∀ u ∈ F, ∀ x ∈ turnsL A u, x ∈ F) : ∀ u, u ∈ F ↔ Turns n (wt A) w u := by
  have key : ∀ {x u}, Turns n (wt A) x u → x ∈ F → Lt n x → u ∈ F := by
    intro x u t
    induction t with
    | rfl => intro h _; exact h
    | step a _ ih =>
      intro h hl
      exact ih (h2 _ h _ ((turn_iff G hl).mpr a)) (a.lt hl)
  exact fun u => ⟨h1 u, fun t => key t h0 hw⟩
theorem Turns.snoc {n : Nat} {c : Nat → Nat → Int} {w u x : List Nat} (h : Turns n c w u) (t : Turn n c u x) : Turns n c w x := h.trans (.step t .rfl)
def body_all : Dl → Mu → Ro := (seq2 (if2 (bool2 (op2 eqD (var2 3) (on2 lenD (cons2 (var2 2) nil2))))
      (ret2 (un2 frz2D (var2 2)))
      nop2)
      (seq2 (forS (it2 (on2 F_law_turns (cons2 (var2 0) (cons2 (op2 idxD (var2 2) (var2 3)) nil2)))) (name2 6) body_in)
      (asg2 (op2 addD (var2 3) (con2 (.int 1))) (name2 3))))
theorem p1000000 : (10 : Int) ^ 6 = 1000000 := by decide
theorem s_turned_all (G : Good n A) {w : List Nat} (hw : Lt n w) (hl : w.length ≤ 60) (hb : n ^ w.length ≤ 999999) : ∃ (F : List (List Nat)) (m' : Mu), F_law_turned_all [plan n A, Wrd w] m = .ok (.lst (F.map fun u => Wrd u)) m' ∧ F.Nodup ∧ (∀ u, u ∈ F ↔ Turns n (wt A) w u) ∧ Ex m m' := by
  obtain ⟨N, hN⟩ : ∃ N : Nat, N = 1000000 := ⟨_, rfl⟩
  have okF : ∀ F : List (List Nat), F.Nodup → (∀ x ∈ F, Turns n (wt A) w x) → F.length ≤ 999999 := fun F nd h => by
    have := words_le (n := n) (L := w.length) nd fun x hx => ⟨(h x hx).lt hw, (h x hx).length⟩
    omega
  have L := for_ret (g := name2 5) (tb := body_all) (p := fun (k : Nat) => D.int (k : Int)) (l := List.range N)
    (I := fun i δ m' => ∃ (F : List (List Nat)) (x5 x6 : Option D), δ = [some (plan n A), some (Wrd w), some (.ref m.length), some (.int (i : Nat)), some (.ref (m.length + 1)), x5, x6] ∧ Fk m m.length F m' ∧ F.Nodup ∧ (∀ u ∈ F, Turns n (wt A) w u) ∧ w ∈ F ∧ i ≤ F.length ∧ ∀ j, j < i → ∀ u, F[j]? = some u → ∀ x ∈ turnsL A u, x ∈ F)
    (R := fun v m' => ∃ (F : List (List Nat)), v = .lst (F.map fun u => Wrd u) ∧ F.Nodup ∧ (∀ u, u ∈ F ↔ Turns n (wt A) w u) ∧ Ex m m') (S := fun _ _ => False)
    (fun i k δ m' hk hI => by
      obtain ⟨F, x5, x6, rfl, K, nd, ht, hwF, hiF, hcl⟩ := hI
      obtain ⟨hi, rfl⟩ := range_get hk
      by_cases he : k = F.length
      · refine .inr (.inr ⟨.lst (F.map fun u => Wrd u), m'.set m.length .dead, ?_, F, rfl, nd, turns_all G hw hwF ht fun u hu x hx => ?_, K.ex.set (Nat.le_refl _)⟩)
        · rw [pass_name]
          have he' : (k : Int) = (F.length : Int) := by omega
          simp -implicitDefEqProofs [body_all, K.fo, he']
        · obtain ⟨j, hj, e⟩ := List.getElem_of_mem hu
          exact hcl j (by omega) u (by rw [List.getElem?_eq_getElem hj, e]) x hx
      · have hlt : k < F.length := by omega
        have hne : ¬ (k : Int) = (F.length : Int) := by omega
        have hku : F[k]? = some F[k] := List.getElem?_eq_getElem hlt
        have hmem : F[k] ∈ F := List.getElem_mem hlt
        have htk := ht _ hmem
        generalize F[k] = u at *
        obtain ⟨m1, e1, g1⟩ := s_law_turns (m := m') G (htk.lt hw) (by rw [htk.length]; exact hl)
        have K1 := Gr.fk g1 K
        obtain ⟨F', y6, m2, e2, K2, nd2, ⟨more, hm⟩, hin, hfr⟩ := in_all (n := n) (A := A) (w := w) (i := k) (Nat.le_refl m.length) 999999 (by omega) (some (.int (k : Nat))) (turnsL A u) (Turns n (wt A) w) okF (fun x hx => Turns.snoc htk ((turn_iff G (htk.lt hw)).mp hx)) nd ht K1 x6
        refine .inl ⟨_, m2, .inl ?_, F', some (.int (k : Nat)), y6, rfl, K2, nd2, fun x hx => ?_, by rw [hm]; exact List.mem_append_left _ hwF, by rw [hm, List.length_append]; omega, fun j hj x hx y hy => ?_⟩
        · rw [pass_name]
          have hz : ((k + 1 : Nat) : Int) = (k : Int) + 1 := by omega
          rw [hz]
          simp -implicitDefEqProofs [body_all, K.fo, hne, hku, e1, e2]
        · rcases hfr x hx with h | h
          · exact ht x h
          · exact Turns.snoc htk ((turn_iff G (htk.lt hw)).mp h)
        · by_cases hjk : j = k
          · subst hjk
            rw [hm, List.getElem?_append_left hlt, hku] at hx
            rw [← Option.some.inj hx] at hy
            exact hin y hy
          · rw [hm, List.getElem?_append_left (by omega)] at hx
            rw [hm]
            exact List.mem_append_left _ (hcl j (by omega) x hx y hy))
    [some (plan n A), some (Wrd w), some (.ref m.length), some (.int ((0 : Nat) : Int)), some (.ref (m.length + 1)), none, none] (m ++ [.lst [Wrd w]] ++ [.dct [keyW w] [.bl true]]) ⟨[w], none, none, rfl, ⟨fun i x e => by rw [List.append_assoc, List.getElem?_append_left (mu_lt e)]; exact e, by simp, by simp⟩, by simp, fun u hu => by simp at hu; subst hu; exact .rfl, by simp, by simp, fun j hj => by omega⟩
  rw [← intsFrom_nat, hN] at L
  have hs : small62 1000000 = true := small62_of (by decide) (by decide)
  have hsi : (List.range N).length = N := List.length_range
  rcases L with ⟨δ', m', e, ⟨F, x5, x6, rfl, K, nd, ht, hwF, hiF, hcl⟩ | h⟩ | ⟨v, m', e, F, rfl, nd, hf, x⟩
  · exfalso
    have := okF F nd ht
    rw [← hN, hsi] at hiF
    omega
  · cases h
  · refine ⟨F, m', ?_, nd, hf, x⟩
    unfold body_all body_in at e
    have hz : ((0 : Nat) : Int) = 0 := rfl
    rw [hz, List.append_assoc] at e
    have hkw : keyW w = .s (wc w) := rfl
    rw [hkw] at e
    simp only [List.cons_append, List.nil_append] at e
    simp -implicitDefEqProofs [F_law_turned_all_eq, tb_law_turned_all_eq, SZ_val, dict1, put1, hs, p1000000, e]
/-! the shortest words -/
def leB (a b : List Nat) : Bool := !ltC (wc b) (wc a)
theorem leB_iff (a b : List Nat) : leB a b = true ↔ leW a b := leC_iff (wc a) (wc b)
def sortW (F : List (List Nat)) : List (List Nat) := F.mergeSort leB
theorem sortW_pw (F : List (List Nat)) : (sortW F).Pairwise leW := by
  have := List.pairwise_mergeSort (le := leB) (fun a b c h1 h2 => (leB_iff a c).mpr (List.le_trans ((leB_iff a b).mp h1) ((leB_iff b c).mp h2)))
    (fun a b => by
      rw [Bool.or_eq_true, leB_iff, leB_iff]
      exact List.le_total _ _) F
  exact this.imp fun h => (leB_iff _ _).mp h
theorem sortL_W (F : List (List Nat)) : sortL (F.map fun u => Wrd u) = (sortW F).map fun u => Wrd u := by
  unfold sortL sortW
  refine (List.map_mergeSort (f := fun u => Wrd u) fun a _ b _ => ?_).symm
  show leB a b = !ltP (.str (wc b)) (.str (wc a))
  rw [ltP_ss]
  rfl
theorem alike_W (F : List (List Nat)) : alikeB (F.map fun u => Wrd u) = true := by
  unfold alikeB
  rw [List.all_eq_true]
  intro d hd
  rw [List.all_eq_true]
  intro e he
  obtain ⟨u, _, rfl⟩ := List.mem_map.mp hd
  obtain ⟨v, _, rfl⟩ := List.mem_map.mp he
  rfl
theorem s_sorted (G : Good n A) {F : List (List Nat)} (h : ∀ u ∈ F, Lt n u) : sorted2 [.lst (F.map fun u => Wrd u)] m = .ok (.lst ((sortW F).map fun u => Wrd u)) m := by
  obtain ⟨k, e, hk⟩ := pds_le (c := 0) (ds := F.map fun u => Wrd u) fun d hd => by
    obtain ⟨u, hu, rfl⟩ := List.mem_map.mp hd
    exact ⟨0, by simp only [D.pd, wc_ok (Lt.l26 G (h u hu)), if_pos], Nat.le_refl _⟩
  have hs : sortOk (F.map fun u => Wrd u) = true := by
    unfold sortOk
    simp
  have : sorted2 [.lst (F.map fun u => Wrd u)] m = sortedF [.lst (F.map fun u => Wrd u)] m := rfl
  rw [this]
  unfold sortedF
  simp -implicitDefEqProofs only [lstOf_k, look_lst, lstK_l, e, alike_W, hs, show k ≤ 60 by omega, and_self, if_pos, sortL_W]
def body_sh : Dl → Mu → Ro := (asg2 (op2 addD (var2 4) (slc2 (on2 F_law_strikes (cons2 (var2 5) nil2)) noPart2 (part2 (con2 (.int 1))))) (name2 4))
def shL (F : List (List Nat)) : List (List Nat) := F.flatMap fun u => (strikesL u).take 1
theorem shL_le : ∀ F : List (List Nat), (shL F).length ≤ F.length
  | [] => Nat.le_refl _
  | u :: F => by
    have := shL_le F
    unfold shL at this ⊢
    rw [List.flatMap_cons, List.length_append, List.length_cons]
    have : ((strikesL u).take 1).length ≤ 1 := List.length_take_le _ _
    omega
theorem sh_all (G : Good n A) {F : List (List Nat)} (hF : ∀ u ∈ F, Lt n u ∧ u.length ≤ 60) (hb : F.length ≤ 1000000) (a0 a1 a2 a3 a5 : Option D) :
    ∃ b5, for2 (name2 5) body_sh (F.map fun u => Wrd u) [a0, a1, a2, a3, some (.lst []), a5] m = .next [a0, a1, a2, a3, some (.lst ((shL F).map fun u => Wrd u)), b5] m := by
  have L := for_on (g := name2 5) (tb := body_sh) (p := fun (u : List Nat) => Wrd u) (l := F)
    (I := fun j δ m' => (∃ x5, δ = [a0, a1, a2, a3, some (.lst ((shL (F.take j)).map fun u => Wrd u)), x5]) ∧ m' = m)
    (fun j u δ m' hu hI => by
      obtain ⟨⟨x5, rfl⟩, rfl⟩ := hI
      have hub := List.mem_of_getElem? hu
      have e1 := s_law_strikes (m := m') G (hF u hub).1 (hF u hub).2
      have ht : F.take (j + 1) = F.take j ++ [u] := by
        rw [List.take_add_one, hu]
        rfl
      have hsh : shL (F.take (j + 1)) = shL (F.take j) ++ (strikesL u).take 1 := by
        rw [ht]
        unfold shL
        rw [List.flatMap_append]
        simp
      have hj : j < F.length := (List.getElem?_eq_some_iff.mp hu).1
      have h1 := shL_le (F.take j)
      rw [List.length_take] at h1
      refine ⟨_, m', .inl ?_, ⟨some (Wrd u), rfl⟩, rfl⟩
      have hc : cutL ((strikesL u).map fun u => Wrd u) none (some (1 : Int)) = ((strikesL u).take 1).map fun u => Wrd u := by
        by_cases h : 1 ≤ (strikesL u).length
        · rw [List.map_take]
          exact cut_take _ 1 (by rw [List.length_map]; exact h)
        · have : strikesL u = [] := List.length_eq_zero_iff.mp (by omega)
          rw [this]
          rfl
      have hz : (shL (F.take j)).length + ((strikesL u).take 1).length ≤ 16777216 := by
        have : ((strikesL u).take 1).length ≤ 1 := List.length_take_le _ _
        omega
      rw [hsh, List.map_append]
      simp -implicitDefEqProofs [body_sh, e1, hc, SZ_val, -List.map_take, -List.length_take, hz])
    [a0, a1, a2, a3, some (.lst []), a5] m ⟨⟨a5, rfl⟩, rfl⟩
  obtain ⟨δ', m', e, ⟨x5, rfl⟩, rfl⟩ := L
  rw [List.take_length] at e
  exact ⟨x5, e⟩
theorem shL_nil {F : List (List Nat)} (h : shL F = []) : ∀ u ∈ F, strikesL u = [] := fun u hu => by
  unfold shL at h
  have := List.flatMap_eq_nil_iff.mp h u hu
  cases hs : strikesL u with
  | nil => rfl
  | cons a b => rw [hs] at this; simp at this
theorem shL_mem {F : List (List Nat)} {x : List Nat} (h : x ∈ shL F) : ∃ u ∈ F, x ∈ strikesL u := by
  unfold shL at h
  obtain ⟨u, hu, hx⟩ := List.mem_flatMap.mp h
  exact ⟨u, hu, List.mem_of_mem_take hx⟩
def body_cls : Dl → Mu → Ro := (seq2 (asg2 (on2 F_law_turned_all (cons2 (var2 0) (cons2 (var2 1) nil2))) (name2 3))
      (seq2 (asg2 (lst2 nil2) (name2 4))
      (seq2 (forS (it2 (var2 3)) (name2 5) body_sh)
      (seq2 (if2 (bool2 (op2 eqD (var2 4) (lst2 nil2)))
      (ret2 (on2 sorted2 (cons2 (var2 3) nil2)))
      nop2)
      (asg2 (op2 idxD (var2 4) (con2 (.int 0))) (name2 1))))))
theorem wordsNm (G : Good n A) {F : List (List Nat)} (h : ∀ u ∈ F, Lt n u) : Nm 1 (.lst (F.map fun u => Wrd u)) := .lst fun d hd => by
  obtain ⟨u, hu, rfl⟩ := List.mem_map.mp hd
  exact .str (wc_ok (Lt.l26 G (h u hu)))
theorem s_law_class (G : Good n A) {w : List Nat} (hw : Lt n w) (hl : w.length ≤ 60) (hb : ∀ k, k ≤ w.length → n ^ k ≤ 999999) : ∃ (S : List (List Nat)) (m' : Mu), F_law_class [plan n A, Wrd w] m = .ok (.lst (S.map fun u => Wrd u)) m' ∧ Cls n A w S ∧ Ex m m' := by
  have L := for_ret (g := name2 2) (tb := body_cls) (p := fun (k : Nat) => D.int (k : Int)) (l := List.range 100)
    (I := fun i δ m' => ∃ (u : List Nat) (x2 x3 x4 x5 : Option D), δ = [some (plan n A), some (Wrd u), x2, x3, x4, x5] ∧ Lt n u ∧ Eqv n (wt A) w u ∧ u.length + 2 * i ≤ w.length ∧ Ex m m')
    (R := fun v m' => ∃ (S : List (List Nat)), v = .lst (S.map fun u => Wrd u) ∧ Cls n A w S ∧ Ex m m') (S := fun _ _ => False)
    (fun i k δ m' hk hI => by
      obtain ⟨u, x2, x3, x4, x5, rfl, hu, eu, hlu, x⟩ := hI
      obtain ⟨F, m1, e1, nd, ht, x1⟩ := s_turned_all (m := m') G hu (by omega) (hb _ (by omega))
      have hFl : ∀ v ∈ F, Lt n v ∧ v.length ≤ 60 := fun v hv => ⟨((ht v).mp hv).lt hu, by rw [((ht v).mp hv).length]; omega⟩
      have hFb : F.length ≤ 1000000 := by
        have := words_le (n := n) (L := u.length) nd fun v hv => ⟨(hFl v hv).1, ((ht v).mp hv).length⟩
        have := hb u.length (by omega)
        omega
      obtain ⟨b5, e2⟩ := sh_all (m := m1) G hFl hFb (some (plan n A)) (some (Wrd u)) (some (.int (k : Nat))) (some (.lst (F.map fun u => Wrd u))) x5
      have hshl : ∀ v ∈ shL F, Lt n v := fun v hv => by
        obtain ⟨y, hy, hs⟩ := shL_mem hv
        exact (strike_iff.mp hs).lt (hFl y hy).1
      by_cases hsh : shL F = []
      · refine .inr (.inr ⟨.lst ((sortW F).map fun u => Wrd u), m1, ?_, sortW F, rfl, ?_, x.trans x1⟩)
        · rw [hsh] at e2
          have q0 : eqB m1 (.lst []) (.lst []) = some true := (wordsNm (F := []) G (by simp)).eqB_t (wordsNm (F := []) G (by simp)) (by decide) (by decide) rfl
          have es := s_sorted (m := m1) G fun v hv => (hFl v hv).1
          rw [pass_name]
          simp -implicitDefEqProofs only [List.map_nil] at e2
          simp -implicitDefEqProofs [body_cls, e1, SZ_val, e2, q0, es]
        · have hm := cls_mem G hu ht (shL_nil hsh)
          refine ⟨(List.mergeSort_perm F leB).nodup_iff.mpr nd, sortW_pw F, fun y => ?_⟩
          have : y ∈ sortW F ↔ y ∈ F := (List.mergeSort_perm F leB).mem_iff
          rw [this, hm]
          exact ⟨fun q => ⟨q.1, eu.trans q.2⟩, fun q => ⟨q.1, eu.symm.trans q.2⟩⟩
      · obtain ⟨y, r, hyr⟩ : ∃ y r, shL F = y :: r := by
          cases hq : shL F with
          | nil => exact absurd hq hsh
          | cons y r => exact ⟨y, r, rfl⟩
        obtain ⟨v, hv, hs⟩ := shL_mem (F := F) (x := y) (by rw [hyr]; simp)
        have st := strike_iff.mp hs
        have tv := (ht v).mp hv
        refine .inl ⟨_, m1, .inl ?_, y, some (.int (k : Nat)), some (.lst (F.map fun u => Wrd u)), some (.lst ((shL F).map fun u => Wrd u)), b5, rfl, st.lt (hFl v hv).1, (eu.trans (tv.eqv (okc G))).trans st.eqv, ?_, x.trans x1⟩
        · have q0 : eqB m1 (.lst ((shL F).map fun u => Wrd u)) (.lst []) = some false := (wordsNm G hshl).eqB_f (wordsNm (F := []) G (by simp)) (by decide) (by decide) (by rw [hyr]; simp)
          rw [pass_name]
          rw [hyr] at e2 q0 ⊢
          simp -implicitDefEqProofs only [List.map_cons] at e2 q0
          simp -implicitDefEqProofs [body_cls, e1, SZ_val, e2, q0]
        · have h1 := st.length
          have h2 := tv.length
          obtain ⟨_, rfl⟩ := range_get hk
          omega)
    [some (plan n A), some (Wrd w), none, none, none, none] m ⟨w, none, none, none, none, rfl, hw, .rfl, by omega, .refl⟩
  rw [← intsFrom_nat] at L
  have hs : small62 100 = true := small62_of (by decide) (by decide)
  rcases L with ⟨δ', m', e, ⟨u, x2, x3, x4, x5, rfl, hu, eu, hlu, x⟩ | h⟩ | ⟨v, m', e, S, rfl, cl, x⟩
  · rw [List.length_range] at hlu
    omega
  · cases h
  · refine ⟨S, m', ?_, cl, x⟩
    unfold body_cls body_sh at e
    simp -implicitDefEqProofs [F_law_class_eq, tb_law_class_eq, SZ_val, hs, e]
end
end K21
namespace K21
open Dn Br Cox
section
variable {n : Nat} {A : List Ang} {m : Mu}
theorem TS.push {r : Nat} {m' : Mu} {c : Cell} (t : TS r m m') : TS r m (m' ++ [c]) := by
  refine t.trans ⟨?_, Stay.push, by simp⟩
  obtain ⟨a, b, d, h⟩ := t.tub
  exact ⟨a, b, d, by rw [List.getElem?_append_left (mu_lt h)]; exact h⟩
theorem TS.set {r q : Nat} {m' : Mu} {c : Cell} (t : TS r m m') (hq : m.length ≤ q) (hr : r ≠ q) : TS r m (m'.set q c) := by
  refine ⟨?_, fun i x hi hx => ?_, by rw [List.length_set]; exact t.len⟩
  · obtain ⟨a, b, d, h⟩ := t.tub
    exact ⟨a, b, d, by rw [List.getElem?_set_ne (Ne.symm hr)]; exact h⟩
  · have := mu_lt hx
    rw [List.getElem?_set_ne (by omega)]
    exact t.stay i x hi hx
theorem s_pickR {r q : Nat} {ds : List D} (h : Tub m r) (hqr : q ≠ r) (hq : m[q]? = some (.lst ds)) (hd : 0 < ds.length) (hl : ds.length ≤ 1000) : ∃ d m', F_law_pick [.ref r, .ref q] m = .ok d m' ∧ d ∈ ds ∧ TS r m m' := by
  obtain ⟨k, m', e, h1, h2, t⟩ := s_sip (top := (ds.length : Int)) h (by omega) (by
    have : (1000 : Int) ≤ 2 ^ 200 := by decide +kernel
    omega)
  obtain ⟨j, rfl⟩ : ∃ j : Nat, k = (j : Int) := ⟨k.toNat, by omega⟩
  have hj : j < ds.length := by omega
  have hq' := t.stay q _ hqr hq
  refine ⟨ds[j], m', ?_, List.getElem_mem hj, t⟩
  simp -implicitDefEqProofs [F_law_pick_eq, tb_law_pick_eq, hq, e, hq', hj]
theorem eqB_ref {q : Nat} {ds : List D} {e : D} (h : m[q]? = some (.lst ds)) : eqB m (.ref q) e = eqB m (.lst ds) e := by
  have : look m (.ref q) = .lst ds := by rw [look_ref, h]; rfl
  unfold eqB
  rw [this]
  rfl
/-- a drawn letter -/
theorem s_letter {r : Nat} (h : Tub m r) (G : Good n A) : ∃ i m', F_law_sip [.ref r, .int n] m = .ok (.int (i : Nat)) m' ∧ i < n ∧ L2.atI (ofS "abcdef") (i : Int) = some (97 + i) ∧ TS r m m' := by
  have h1 := G.n1
  have h6 := G.n6
  obtain ⟨k, m1, e, a, b, t⟩ := s_sip (top := (n : Int)) h (by omega) (by
    have : (100 : Int) ≤ 2 ^ 200 := by decide +kernel
    omega)
  obtain ⟨i, rfl⟩ : ∃ i : Nat, k = (i : Int) := ⟨k.toNat, by omega⟩
  exact ⟨i, m1, e, by omega, at_letters (by omega), t⟩
/-- a place in a word -/
theorem s_spot {r : Nat} (h : Tub m r) {w : List Nat} (hl : w.length ≤ 100) : ∃ k m', F_law_sip [.ref r, .int ((w.length : Int) + 1)] m = .ok (.int (k : Nat)) m' ∧ k ≤ w.length ∧ TS r m m' := by
  obtain ⟨k, m1, e, a, b, t⟩ := s_sip (top := (w.length : Int) + 1) h (by omega) (by
    have : (200 : Int) ≤ 2 ^ 200 := by decide +kernel
    omega)
  obtain ⟨i, rfl⟩ : ∃ i : Nat, k = (i : Int) := ⟨k.toNat, by omega⟩
  exact ⟨i, m1, e, by omega, t⟩
theorem lt_take {w : List Nat} (h : Lt n w) (k : Nat) : Lt n (w.take k) := fun i hi => h i (List.mem_of_mem_take hi)
theorem lt_drop {w : List Nat} (h : Lt n w) (k : Nat) : Lt n (w.drop k) := fun i hi => h i (List.mem_of_mem_drop hi)
theorem turnsL_len (A : List Ang) (w : List Nat) : (turnsL A w).length ≤ w.length := by
  unfold turnsL
  have := List.length_filterMap_le (turnAt A w) (List.range (w.length - 1))
  rw [List.length_range] at this
  omega
theorem strikesL_len (w : List Nat) : (strikesL w).length ≤ w.length := by
  unfold strikesL
  rw [List.length_map]
  have := List.length_filter_le (strikeB w) (List.range (w.length - 1))
  rw [List.length_range] at this
  omega
def body_mv : Dl → Mu → Ro := (seq2 (asg2 (op2 addDM (on2 F_law_turns (cons2 (var2 1) (cons2 (var2 2) nil2))) (on2 F_law_strikes (cons2 (var2 2) nil2))) (name2 4))
      (seq2 (par2 5 6 (cons2 (op2 idxD (con2 (.str (ofS "abcdef"))) (on2 F_law_sip (cons2 (var2 0) (cons2 (op2 idxD (var2 1) (con2 (.int 0))) nil2)))) (cons2 (on2 F_law_sip (cons2 (var2 0) (cons2 (op2 addD (on2 lenD (cons2 (var2 2) nil2)) (con2 (.int 1))) nil2))) nil2)))
      (seq2 (if2 (bool2 (op2 ltD (on2 lenD (cons2 (var2 2) nil2)) (con2 (.int 7))))
      (expr2 (bm2 "list" appendM (var2 4) (cons2 (op2 addD (op2 addD (op2 addD (slc2 (var2 2) noPart2 (part2 (var2 6))) (var2 5)) (var2 5)) (slc2 (var2 2) (part2 (var2 6)) noPart2)) nil2)))
      nop2)
      (asg2 (ifV (bool2 (op2 neD (var2 4) (lst2 nil2))) (on2 F_law_pick (cons2 (var2 0) (cons2 (var2 4) nil2))) (var2 2)) (name2 2)))))
theorem lc_len (i : Nat) : (lc i).length = 1 := rfl
theorem moved_step {r : Nat} (h : Tub m r) (G : Good n A) {w : List Nat} (hw : Lt n w) (hl : w.length ≤ 8) (x3 x4 x5 x6 : Option D) :
    ∃ (u : List Nat) (y4 y5 y6 : Option D) (m' : Mu), body_mv [some (.ref r), some (plan n A), some (Wrd w), x3, x4, x5, x6] m = .next [some (.ref r), some (plan n A), some (Wrd u), x3, y4, y5, y6] m' ∧ Lt n u ∧ u.length ≤ 8 ∧ TS r m m' := by
  have H := okc G
  obtain ⟨m1, e1, g1⟩ := s_law_turns (m := m) G hw (by omega)
  have e2 := s_law_strikes (m := m1) G hw (by omega)
  have t1 : TS r m m1 := h.gr g1
  obtain ⟨some_, hsome⟩ : ∃ l, l = turnsL A w ++ strikesL w := ⟨_, rfl⟩
  have ok1 : ∀ u ∈ some_, Lt n u ∧ u.length ≤ 8 := by
    intro u hu
    rw [hsome] at hu
    rcases List.mem_append.mp hu with q | q
    · have := (turn_iff G hw).mp q
      exact ⟨this.lt hw, by rw [this.length]; exact hl⟩
    · have := strike_iff.mp q
      exact ⟨this.lt hw, by have := this.length; omega⟩
  have lT := turnsL_len A w
  have lS := strikesL_len w
  have hlen : some_.length ≤ 16 := by rw [hsome, List.length_append]; omega
  have hrq : r ≠ m1.length := by
    obtain ⟨a, b, c, z⟩ := t1.tub
    have := mu_lt z
    omega
  have t2 : TS r m (m1 ++ [.lst (some_.map fun u => Wrd u)]) := t1.push
  obtain ⟨x, m3, e3, hx, ax, t3⟩ := s_letter (m := m1 ++ [.lst (some_.map fun u => Wrd u)]) t2.tub G
  obtain ⟨k, m4, e4, hk, t4⟩ := s_spot (m := m3) t3.tub (w := w) (by omega)
  have t34 := t3.trans t4
  have hq4 : m4[m1.length]? = some (.lst (some_.map fun u => Wrd u)) := t34.stay _ _ (Ne.symm hrq) (by simp)
  have pl := plan_eq n A
  have hz1 : (turnsL A w).length + (strikesL w).length ≤ 16777216 := by omega
  have hap : ((turnsL A w).map fun u => Wrd u) ++ (strikesL w).map (fun u => Wrd u) = some_.map fun u => Wrd u := by rw [hsome, List.map_append]
  have l1 : w.length ≤ 16777216 := by omega
  have hml := t1.len
  have c1 := cutS_take w k hk
  have c2 := cutS_drop w k
  rw [pl] at e1
  -- the list behind the putting
  by_cases h7 : w.length < 7
  · have h7' : (w.length : Int) < 7 := by omega
    have lx : Lt n (w.take k ++ [x] ++ [x] ++ w.drop k) := (((lt_take hw k).app (.one hx)).app (.one hx)).app (lt_drop hw k)
    have ok2 : ∀ u ∈ some_ ++ [w.take k ++ [x] ++ [x] ++ w.drop k], Lt n u ∧ u.length ≤ 8 := by
      intro u hu
      rcases List.mem_append.mp hu with q | q
      · exact ok1 u q
      · simp only [List.mem_singleton] at q
        subst q
        exact ⟨lx, by simp; omega⟩
    have t5 : TS r m (m4.set m1.length (.lst ((some_ ++ [w.take k ++ [x] ++ [x] ++ w.drop k]).map fun u => Wrd u))) := (t2.trans t34).set hml hrq
    have hq5 : (m4.set m1.length (.lst ((some_ ++ [w.take k ++ [x] ++ [x] ++ w.drop k]).map fun u => Wrd u)))[m1.length]? = some (.lst ((some_ ++ [w.take k ++ [x] ++ [x] ++ w.drop k]).map fun u => Wrd u)) := mu_set hq4
    obtain ⟨d, m6, e6, hd, t6⟩ := s_pickR (q := m1.length) t5.tub (Ne.symm hrq) hq5 (by simp) (by simp; omega)
    obtain ⟨u, hu, rfl⟩ := List.mem_map.mp hd
    have q5 : eqB (m4.set m1.length (.lst ((some_ ++ [w.take k ++ [x] ++ [x] ++ w.drop k]).map fun u => Wrd u))) (.ref m1.length) (.lst []) = some false := by
      rw [eqB_ref hq5]
      exact (wordsNm G fun v hv => (ok2 v hv).1).eqB_f (wordsNm (F := []) G (by simp)) (by decide) (by decide) (by simp)
    refine ⟨u, some (.ref m1.length), some (.str (wc [x])), some (.int k), m6, ?_, (ok2 u hu).1, (ok2 u hu).2, t5.trans t6⟩
    rw [List.map_append] at e6 q5
    have z1 : min k w.length + 1 ≤ 16777216 := by omega
    have z2 : min k w.length + 1 + 1 ≤ 16777216 := by omega
    have z3 : min k w.length + 1 + 1 + (w.length - k) ≤ 16777216 := by omega
    simp -implicitDefEqProofs only [List.map_cons, List.map_nil, List.append_assoc, List.cons_append, List.nil_append] at e6 q5
    simp -implicitDefEqProofs [body_mv, pl, e1, e2, SZ_val, hz1, hap, -List.map_append, e3, ax, letters_len, fold_lc, lc_len, wc_len, l1, e4, h7', hq4, c1, c2, lc_wc, wc_app, z1, z2, z3, show some_.length < 16777216 by omega, q5, e6]
  · have h7' : ¬ (w.length : Int) < 7 := by omega
    by_cases hs0 : some_ = []
    · have q5 : eqB m4 (.ref m1.length) (.lst []) = some true := by
        rw [eqB_ref hq4, hs0]
        exact (wordsNm (F := []) G (by simp)).eqB_t (wordsNm (F := []) G (by simp)) (by decide) (by decide) rfl
      refine ⟨w, some (.ref m1.length), some (.str (wc [x])), some (.int k), m4, ?_, hw, hl, t2.trans t34⟩
      simp -implicitDefEqProofs [body_mv, pl, e1, e2, SZ_val, hz1, hap, -List.map_append, e3, ax, letters_len, fold_lc, lc_len, wc_len, l1, e4, h7', hq4, q5]
      rfl
    · obtain ⟨d, m6, e6, hd, t6⟩ := s_pickR (q := m1.length) t4.tub (Ne.symm hrq) hq4 (by rw [List.length_map]; exact List.length_pos_iff.mpr hs0) (by simp; omega)
      obtain ⟨u, hu, rfl⟩ := List.mem_map.mp hd
      have q5 : eqB m4 (.ref m1.length) (.lst []) = some false := by
        rw [eqB_ref hq4]
        exact (wordsNm G fun v hv => (ok1 v hv).1).eqB_f (wordsNm (F := []) G (by simp)) (by decide) (by decide) (by simpa using hs0)
      refine ⟨u, some (.ref m1.length), some (.str (wc [x])), some (.int k), m6, ?_, (ok1 u hu).1, (ok1 u hu).2, (t2.trans t34).trans t6⟩
      simp -implicitDefEqProofs [body_mv, pl, e1, e2, SZ_val, hz1, hap, -List.map_append, e3, ax, letters_len, fold_lc, lc_len, wc_len, l1, e4, h7', hq4, q5, e6]
      rfl
end
end K21
namespace K21
open Dn Br Cox
section
variable {n : Nat} {A : List Ang} {m : Mu}
def vl (n : Nat) (v : Vec) : List Int := (List.range n).map v
def reflC (n : Nat) (A : List Ang) (i : Nat) (l : List Int) : List Int := (List.range n).map fun k => if k = i then ((List.range n).map fun j => w0 A i j * l.getD j 0).sum - l.getD i 0 else l.getD k 0
def actC (n : Nat) (A : List Ang) (w : List Nat) (l : List Int) : List Int := w.foldr (reflC n A) l
theorem vl_get {n : Nat} {v : Vec} {k : Nat} (h : k < n) : (vl n v).getD k 0 = v k := by simp [vl, h]
theorem reflC_eq {i : Nat} (hi : i < n) (v : Vec) : vl n (refl n (wt A) i v) = reflC n A i (vl n v) := by
  unfold vl reflC
  refine List.map_congr_left fun k hk => ?_
  have hk := List.mem_range.mp hk
  have e1 : ((List.range n).map v).getD k 0 = v k := vl_get hk
  have e2 : ((List.range n).map v).getD i 0 = v i := vl_get hi
  simp only [refl]
  rw [e1, e2]
  by_cases h : k = i
  · rw [if_pos h, if_pos h]
    have : ((List.range n).map fun j => w0 A i j * ((List.range n).map v).getD j 0) = (List.range n).map fun j => w0 A i j * v j := List.map_congr_left fun j hj => by
      have e3 : ((List.range n).map v).getD j 0 = v j := vl_get (List.mem_range.mp hj)
      rw [e3]
    rw [this, sum_w0]
  · rw [if_neg h, if_neg h]
theorem actC_eq {w : List Nat} (hw : Lt n w) (v : Vec) : vl n (act n (wt A) w v) = actC n A w (vl n v) := by
  induction w with
  | nil => rfl
  | cons i w ih =>
    have hi : i < n := hw i (by simp)
    rw [act_cons, reflC_eq hi, ih fun j hj => hw j (by simp [hj])]
    rfl
theorem vl_iff {v u : Vec} : vl n v = vl n u ↔ RowD n v = RowD n u := by
  constructor
  · intro h
    have e := List.map_inj_left.mp h
    have e2 : rowL n v = rowL n u := rowL_congr fun k hk => e k (List.mem_range.mpr hk)
    rw [RowD, RowD, e2]
  · intro h
    injection h with h
    have e := rowL_inj h
    exact List.map_congr_left fun k hk => e k (List.mem_range.mp hk)
def sameC (n : Nat) (A : List Ang) (w u : List Nat) (i : Nat) : Bool := actC n A w (vl n (alpha i)) == actC n A u (vl n (alpha i))
theorem sameC_iff {w u : List Nat} (hw : Lt n w) (hu : Lt n u) (i : Nat) : sameC n A w u i = true ↔ RowD n (act n (wt A) w (alpha i)) = RowD n (act n (wt A) u (alpha i)) := by
  unfold sameC
  rw [beq_iff_eq, ← actC_eq hw, ← actC_eq hu, vl_iff]
theorem eqvC {w u : List Nat} (hw : Lt n w) (hu : Lt n u) (h : (List.range n).all (sameC n A w u) = true) : Eqv n (wt A) w u :=
  (eqv_rows hw hu).mpr fun j hj => (sameC_iff hw hu j).mp (List.all_eq_true.mp h j (List.mem_range.mpr hj))
theorem eqvC_not {w u : List Nat} (hw : Lt n w) (hu : Lt n u) (h : (List.range n).all (sameC n A w u) = false) : ¬ Eqv n (wt A) w u := fun e => by
  have : (List.range n).all (sameC n A w u) = true := by
    rw [List.all_eq_true]
    intro j hj
    exact (sameC_iff hw hu j).mpr ((eqv_rows hw hu).mp e j (List.mem_range.mp hj))
  rw [this] at h
  cases h
theorem unlC {w u : List Nat} (hw : Lt n w) (hu : Lt n u) {i : Nat} (hi : i < n) (h : sameC n A w u i = false) (h2 : (List.range i).all (sameC n A w u) = true) : Unl n A w u (Lt1 i) :=
  .at hi (fun e => by rw [(sameC_iff hw hu i).mpr e] at h; cases h) fun j hj => (sameC_iff hw hu j).mp (List.all_eq_true.mp h2 j (List.mem_range.mpr hj))
theorem unlC_no {w u : List Nat} (hw : Lt n w) (hu : Lt n u) (h : (List.range n).all (sameC n A w u) = true) : Unl n A w u .non :=
  .no fun j hj => (sameC_iff hw hu j).mp (List.all_eq_true.mp h j (List.mem_range.mpr hj))
theorem lt_of {n : Nat} {w : List Nat} (h : w.all (· < n) = true) : Lt n w := fun i hi => by simpa using List.all_eq_true.mp h i hi
end
end K21
namespace K21
open Dn Br Cox
section
variable {n : Nat} {A : List Ang} {m : Mu}
def keyR (l : List Int) : List DKey := l.map DKey.i
theorem keyR_inj {a b : List Int} (h : keyR a = keyR b) : a = b := List.map_inj_right (fun x y e => by injection e) |>.mp h
theorem dkeys_ints : ∀ l : List Int, dkeys (l.map D.int) = some (keyR l)
  | [] => rfl
  | a :: l => by
    rw [List.map_cons, dkeys, dkeys_ints l]
    rfl
theorem dkeyT_row (l : List Int) : dkeyT (rowT l) = some (keyR l) := dkeys_ints l
def tks (P : List (List Int × Bool)) : List (List DKey) := P.map fun p => keyR p.1
def tvs (P : List (List Int × Bool)) : List D := P.map fun p => .bl p.2
theorem lkpT_flag : ∀ (P : List (List Int × Bool)) (k : List Int), (lkpT (tks P) (tvs P) (keyR k)).getD (.bl false) = .bl (flag P k)
  | [], k => rfl
  | (a, b) :: P, k => by
    show (if keyR a = keyR k then some (D.bl b) else lkpT (tks P) (tvs P) (keyR k)).getD (.bl false) = .bl (if a = k then b else flag P k)
    by_cases h : a = k
    · subst h; simp
    · rw [if_neg fun e => h (keyR_inj e), if_neg h, lkpT_flag P k]
theorem dputT_tog : ∀ (P : List (List Int × Bool)) (k : List Int), dputT (tks P) (tvs P) (keyR k) (.bl (!flag P k)) = (tks (tog P k), tvs (tog P k))
  | [], k => rfl
  | (a, b) :: P, k => by
    show (if keyR a = keyR k then (keyR a :: tks P, D.bl (!if a = k then b else flag P k) :: tvs P) else (keyR a :: (dputT (tks P) (tvs P) (keyR k) (.bl (!if a = k then b else flag P k))).1, D.bl b :: (dputT (tks P) (tvs P) (keyR k) (.bl (!if a = k then b else flag P k))).2)) = _
    by_cases h : a = k
    · subst h
      simp [tog, tks, tvs]
    · rw [if_neg fun e => h (keyR_inj e), if_neg h, dputT_tog P k]
      simp [tog, h, tks, tvs]
theorem tks_nodup {P : List (List Int × Bool)} (h : (P.map (·.1)).Nodup) : (tks P).Nodup := by
  unfold tks
  have : P.map (fun p => keyR p.1) = (P.map (·.1)).map keyR := by rw [List.map_map]; rfl
  rw [this]
  exact List.Pairwise.map keyR (fun a b hab e => hab (keyR_inj e)) h
theorem tog_len (P : List (List Int × Bool)) (k : List Int) : (tog P k).length ≤ P.length + 1 := by
  have := congrArg List.length (tog_keys P k)
  rw [List.length_map] at this
  rw [this]
  split <;> simp
theorem abs_comp (v : Vec) (δ : Dl) (hl : δ.length = 7) : comp2 (name2 6) yes2 (on2 absD (cons2 (var2 6) nil2)) δ (rowL n v) m = .ok (rowL n (absV v)) m := by
  have := comp_mapP (g := name2 6) (te := on2 absD (cons2 (var2 6) nil2)) (δ := δ) (m := m) (ds := rowL n v) (f := fun d => match d with | .int k => .int (if k < 0 then -k else k) | d => d) (fun d hd => by
    obtain ⟨k, _, rfl⟩ := List.mem_map.mp hd
    refine ⟨_, name2_ap _ _ _ _, ?_⟩
    have h6 : (δ.set 6 (some (.int (v k))))[6]? = some (some (.int (v k))) := List.getElem?_set_self (by omega)
    simp -implicitDefEqProofs [h6])
  rw [this]
  unfold rowL
  rw [List.map_map]
  rfl
def body_rt : Dl → Mu → Ro := (seq2 (asg2 (on2 F_sent (cons2 (var2 0) (cons2 (un2 revD (slc2 (var2 1) (part2 (op2 addD (var2 3) (con2 (.int 1)))) noPart2)) (cons2 (on2 F_single (cons2 (var2 0) (cons2 (bm2 "str" sindexM (un2 (propD [("Mirrors", F_Mirrors_letters)]) (var2 0)) (cons2 (var2 4) nil2)) nil2))) nil2)))) (name2 5))
      (seq2 (asg2 (on2 tupleD (cons2 (lc2 (it2 (var2 5)) (name2 6) yes2 (on2 absD (cons2 (var2 6) nil2)) [6]) nil2)) (name2 5))
      (asg2 (notV (get2 (var2 2) (var2 5) (con2 (.bl false)))) (subG (var2 2) (var2 5)))))
theorem keyV_int (v : Vec) : rowL n v = (keyV n v).map D.int := by
  unfold rowL keyV
  rw [List.map_map]
  rfl
theorem rt_step (G : Good n A) {w : List Nat} (hw : Lt n w) (hl : w.length ≤ 100) {p q : List Nat} {s : Nat} (hpq : w = p ++ s :: q) {P : List (List Int × Bool)} (hP : (P.map (·.1)).Nodup) (hb : P.length ≤ 1000) {r : Nat} (hr : m[r]? = some (.dctT (tks P) (tvs P))) (a5 : Option D) :
    ∃ b5 m', body_rt [some (mir n A), some (Wrd w), some (.ref r), some (.int (p.length : Nat)), some (Lt1 s), a5, none] m = .next [some (mir n A), some (Wrd w), some (.ref r), some (.int (p.length : Nat)), some (Lt1 s), b5, none] (m'.set r (.dctT (tks (tog P (keyV n (absV (act n (wt A) q.reverse (alpha s)))))) (tvs (tog P (keyV n (absV (act n (wt A) q.reverse (alpha s)))))))) ∧ Gr m m' := by
  have h6 := G.n6
  have hs : s < n := hw s (by simp [hpq])
  have hq : Lt n q := fun i hi => hw i (by simp [hpq, hi])
  have hlw : w.length = p.length + q.length + 1 := by rw [hpq]; simp; omega
  obtain ⟨m1, e1, g1⟩ := s_sent G hq.rev (by simp; omega) (alpha s) m
  have hd : w.drop (p.length + 1) = q := by
    rw [hpq]
    have : p.length + 1 = (p ++ [s]).length := by simp
    rw [this, show p ++ s :: q = (p ++ [s]) ++ q by simp, List.drop_left]
  have c1 := cut_from (wc w) p.length 1
  rw [wc_dp, hd] at c1
  have c1 : cutL (wc w) (some ((p.length : Int) + 1)) none = wc q := c1
  have hi := index_lc n h6 s hs
  have hsg := s_single (m := m) G s
  have hr1 := g1.get hr
  generalize act n (wt A) q.reverse (alpha s) = v at *
  have hac := fun δ hl => abs_comp (n := n) (m := m1) v δ hl
  have hlk := lkpT_flag P (keyV n (absV v))
  have hdp := dputT_tog P (keyV n (absV v))
  have hkey : dkeyT (RowD n (absV v)) = some (keyR (keyV n (absV v))) := by
    have := dkeyT_row (keyV n (absV v))
    rw [← rowD_key] at this
    exact this
  refine ⟨some (RowD n (absV v)), m1, ?_, g1⟩
  have hac0 := hac [some (mir n A), some (Wrd w), some (.ref r), some (.int (p.length : Nat)), some (Lt1 s), some (RowD n v), none] rfl
  have z1 : w.length ≤ 16777216 := by omega
  have z2 : q.length ≤ 16777216 := by omega
  have ln := tks_nodup hP
  have ll : (tks P).length < 16777216 := by simp [tks]; omega
  simp -implicitDefEqProofs [body_rt, wc_len, SZ_val, z1, z2, c1, wc_rev, s_letters G, hi, hsg, e1, hac0, rowL_len, show n ≤ 16777216 by omega, hr1, hkey, hlk, ll, ln, hdp]
theorem flt_comp (P : List (List Int × Bool)) (hP : (P.map (·.1)).Nodup) (δ : Dl) (hl : δ.length = 7) (h2 : δ[2]? = some (some (.dctT (tks P) (tvs P)))) :
    comp2 (name2 5) (tst2 (op2 idxD (var2 2) (var2 5))) (var2 5) δ ((tks P).map fun k => .tup (k.map dkD')) m = .ok ((tl P).map rowT) m := by
  have hit : (tks P).map (fun k => D.tup (k.map dkD')) = P.map fun p => rowT p.1 := by
    unfold tks
    rw [List.map_map]
    refine List.map_congr_left fun p _ => ?_
    show D.tup ((p.1.map DKey.i).map dkD') = _
    rw [List.map_map]
    rfl
  have hlk : ∀ (P : List (List Int × Bool)), (P.map (·.1)).Nodup → ∀ p ∈ P, lkpT (tks P) (tvs P) (keyR p.1) = some (.bl p.2) := by
    intro P
    induction P with
    | nil => intro _ p hp; cases hp
    | cons a P ih =>
      intro h p hp
      have h2 := List.nodup_cons.mp h
      show (if keyR a.1 = keyR p.1 then some (D.bl a.2) else lkpT (tks P) (tvs P) (keyR p.1)) = _
      rcases List.mem_cons.mp hp with rfl | hp
      · simp
      · have hne : a.1 ≠ p.1 := fun e => h2.1 (by show a.1 ∈ _; rw [e]; exact List.mem_map_of_mem hp)
        rw [if_neg fun e => hne (keyR_inj e), ih h2.2 p hp]
  rw [hit]
  obtain ⟨m', e, rfl⟩ := comp_flt (g := name2 5) (tt := tst2 (op2 idxD (var2 2) (var2 5))) (te := var2 5) (δ := δ) (I := fun m' => m' = m) (p := fun p => rowT p.1) (q := fun p => rowT p.1) (b := fun p => p.2) P (m := m) rfl (fun p hp m' hm => by
    subst hm
    have h5 : (δ.set 5 (some (rowT p.1)))[5]? = some (some (rowT p.1)) := List.getElem?_set_self (by omega)
    have h2' : (δ.set 5 (some (rowT p.1)))[2]? = some (some (.dctT (tks P) (tvs P))) := by rw [List.getElem?_set_ne (by decide)]; exact h2
    have hl := hlk P hP p hp
    have hk := dkeyT_row p.1
    refine ⟨_, m', name2_ap _ _ _ _, ?_, rfl, fun _ => ⟨m', ?_, rfl⟩⟩
    · simp -implicitDefEqProofs [h5, h2', hk, hl]
    · simp -implicitDefEqProofs [h5])
  rw [e]
  unfold tl
  rw [List.map_map]
  rfl
theorem s_sortR {R : List (List Int)} {k : Nat} (h : ∀ l ∈ R, l.length = k) (h1 : 1 ≤ k) : sorted2 [.lst (R.map rowT)] m = .ok (.lst ((sortR R).map rowT)) m ∧ sorted2 [.tup (R.map rowT)] m = .ok (.lst ((sortR R).map rowT)) m := by
  obtain ⟨c, e, hc⟩ := pds_le (c := 1) (ds := R.map rowT) fun d hd => by
    obtain ⟨u, hu, rfl⟩ := List.mem_map.mp hd
    exact (rows_nm u).pd
  have hs : sortOk (R.map rowT) = true := by
    unfold sortOk
    rw [Bool.or_eq_true]
    left
    rw [List.all_eq_true]
    intro d hd
    obtain ⟨u, hu, rfl⟩ := List.mem_map.mp hd
    have := h u hu
    cases u with
    | nil => simp at this; omega
    | cons a u => rfl
  have ha := alike_rows h
  constructor
  · show sortedF [.lst (R.map rowT)] m = _
    unfold sortedF
    simp -implicitDefEqProofs only [lstOf_k, look_lst, lstK_l, e, ha, hs, show c ≤ 60 by omega, and_self, if_pos, sortL_rows h]
  · show sortedF [.tup (R.map rowT)] m = _
    unfold sortedF
    have h1 : lstOf m (.tup (R.map rowT)) = none := rfl
    have h2 : tupOf m (.tup (R.map rowT)) = some (R.map rowT) := rfl
    simp -implicitDefEqProofs only [h1, h2, e, ha, hs, show c ≤ 60 by omega, and_self, if_pos, sortL_rows h]
end
end K21
namespace K21
open Dn Br Cox
section
variable {n : Nat} {A : List Ang} {m : Mu}
theorem ltP_ii (x y : Int) : ltP (.int x) (.int y) = decide (x < y) := by
  unfold ltP
  simp only [D.py]
  exact PySem.W.dataLt_int x y
theorem best_min : ∀ (l : List Int) (a : Int), ∃ k, bestBy (fun y a => ltP y a) (.int a) (l.map D.int) = .int k ∧ (∀ x ∈ a :: l, k ≤ x) ∧ k ∈ a :: l
  | [], a => ⟨a, rfl, by simp, by simp⟩
  | x :: l, a => by
    have e : bestBy (fun y a => ltP y a) (.int a) ((x :: l).map D.int) = bestBy (fun y a => ltP y a) (.int (if x < a then x else a)) (l.map D.int) := by
      unfold bestBy
      rw [List.map_cons, List.foldl_cons]
      congr 1
      show (if ltP (D.int x) (D.int a) = true then D.int x else D.int a) = _
      rw [ltP_ii]
      by_cases h : x < a
      · simp [h]
      · simp [h]
    obtain ⟨k, h1, h2, h3⟩ := best_min l (if x < a then x else a)
    refine ⟨k, e.trans h1, fun y hy => ?_, ?_⟩
    · have h4 := h2 _ List.mem_cons_self
      rcases List.mem_cons.mp hy with rfl | hy
      · split at h4 <;> omega
      · rcases List.mem_cons.mp hy with rfl | hy
        · split at h4 <;> omega
        · exact h2 y (List.mem_cons_of_mem _ hy)
    · rcases List.mem_cons.mp h3 with h3 | h3
      · split at h3
        · rw [h3]; simp
        · rw [h3]; simp
      · exact List.mem_cons_of_mem _ (List.mem_cons_of_mem _ h3)
/-- the least number of a row -/
theorem s_min (h : 1 ≤ n) (v : Vec) : ∃ k : Int, minF [RowD n v] m = .ok (.int k) m ∧ (k < 0 ↔ ∃ i, i < n ∧ v i < 0) := by
  obtain ⟨q, rfl⟩ : ∃ q, n = q + 1 := ⟨n - 1, by omega⟩
  obtain ⟨a, l, hal⟩ : ∃ a l, (List.range (q + 1)).map v = a :: l := by
    cases hq : (List.range (q + 1)).map v with
    | nil => simp at hq
    | cons a l => exact ⟨a, l, rfl⟩
  have e0 : rowL (q + 1) v = (D.int a) :: l.map D.int := by
    have : rowL (q + 1) v = ((List.range (q + 1)).map v).map D.int := by unfold rowL; rw [List.map_map]; rfl
    rw [this, hal]
    rfl
  obtain ⟨k, h1, h2, h3⟩ := best_min l a
  obtain ⟨c, e1, hc⟩ := pds_le (c := 0) (ds := (a :: l).map D.int) fun d hd => by
    obtain ⟨i, _, rfl⟩ := List.mem_map.mp hd
    exact ⟨0, rfl, Nat.le_refl _⟩
  have ha : alikeB ((a :: l).map D.int) = true := by
    unfold alikeB
    rw [List.all_eq_true]
    intro d hd
    rw [List.all_eq_true]
    intro e he
    obtain ⟨i, _, rfl⟩ := List.mem_map.mp hd
    obtain ⟨j, _, rfl⟩ := List.mem_map.mp he
    rfl
  rw [List.map_cons] at e1 ha
  refine ⟨k, ?_, fun hk => ?_, fun ⟨i, hi, hv⟩ => ?_⟩
  · show bestD (fun y a => ltP y a) (RowD (q + 1) v) m = _
    unfold bestD
    have es : seqOf m (RowD (q + 1) v) = some (rowL (q + 1) v) := by rw [seqOf_k]; rfl
    rw [es, e0]
    dsimp only
    rw [e1]
    dsimp only
    rw [if_pos ⟨by omega, ha⟩, h1]
  · rw [← hal] at h3
    obtain ⟨i, hi, e⟩ := List.mem_map.mp h3
    exact ⟨i, List.mem_range.mp hi, by omega⟩
  · have := h2 (v i) (by rw [← hal]; exact List.mem_map_of_mem (List.mem_range.mpr hi))
    omega
/-- a root's least number tells its side -/
theorem s_min_root (G : Good n A) {v : Vec} (hv : Root n (wt A) v) : ∃ k : Int, minF [RowD n v] m = .ok (.int k) m ∧ (k < 0 ↔ Lo v) ∧ (0 ≤ k ↔ Hi v) := by
  obtain ⟨k, e, hk⟩ := s_min (m := m) (n := n) G.n1 v
  have hn : ∀ i, v i < 0 → i < n := fun i hi => by
    refine Classical.byContradiction fun h => ?_
    have := hv.supp (k := i) (by omega)
    omega
  have key : Lo v ↔ k < 0 := by
    rw [hk]
    constructor
    · intro h
      refine Classical.byContradiction fun hx => ?_
      refine hv.not_both (fun i => ?_) h
      refine Classical.byContradiction fun hi => hx ⟨i, hn i (by omega), by omega⟩
    · rintro ⟨i, _, hi⟩
      rcases hv.sign (okc G) with h | h
      · have := h i; omega
      · exact h
  refine ⟨k, e, key.symm, ?_⟩
  constructor
  · intro h
    rcases hv.sign (okc G) with h1 | h1
    · exact h1
    · have := key.mp h1; omega
  · intro h
    refine Classical.byContradiction fun hx => ?_
    exact hv.not_both h (key.mpr (by omega))
/-- a row in a list or tuple of rows -/
theorem any_row (F : List (List Int)) (u : List Int) : ((F.map rowT).any fun z => D.eq z (rowT u)) = decide (u ∈ F) := by
  rw [Bool.eq_iff_iff, List.any_eq_true, decide_eq_true_eq]
  constructor
  · rintro ⟨d, hd, e⟩
    obtain ⟨v, hv, rfl⟩ := List.mem_map.mp hd
    have := ((rows_nm v).eq_iff (rows_nm u)).mp e
    rw [← rowT_inj this]
    exact hv
  · intro h
    exact ⟨rowT u, List.mem_map_of_mem h, ((rows_nm u).eq_iff (rows_nm u)).mpr rfl⟩
theorem rows_pds (F : List (List Int)) : ∃ c, D.pds (F.map rowT) = some c ∧ c ≤ 1 := pds_le fun d hd => by
  obtain ⟨u, _, rfl⟩ := List.mem_map.mp hd
  exact (rows_nm u).pd
theorem in_rows (F : List (List Int)) (u : List Int) : inK1 m (rowT u) (.lst (F.map rowT)) = some (decide (u ∈ F)) ∧ inK1 m (rowT u) (.tup (F.map rowT)) = some (decide (u ∈ F)) := by
  obtain ⟨a, h1, h2⟩ := (rows_nm u).pd
  obtain ⟨b, h3, h4⟩ := rows_pds F
  rw [inK1_l (h := fun r => by simp), inK1_t (h := fun r => by simp), h1, h3, any_row]
  simp only [show a ≤ 50 by omega, show b ≤ 50 by omega, and_self, if_true]
end
end K21
namespace K21
open Dn Br Cox
section
variable {n : Nat} {A : List Ang} {m : Mu}
theorem cutN : ∀ n : Nat, n ≤ 6 → cutL (ofS "abcdef") none (some (n : Int)) = wc (List.range n) := by decide +kernel
abbrev rowsV (n : Nat) (F : List Vec) : List D := F.map fun v => RowD n v
theorem rowsV_key (n : Nat) (F : List Vec) : rowsV n F = (F.map (keyV n)).map rowT := by
  unfold rowsV
  rw [List.map_map]
  exact List.map_congr_left fun v _ => rowD_key n v
theorem in_rowsV (F : List Vec) (v : Vec) : ∃ b, inK1 m (RowD n v) (.lst (rowsV n F)) = some b := by
  rw [rowsV_key]
  show ∃ b, inK1 m (D.tup (rowL n v)) _ = _
  rw [rowD_key]
  exact ⟨_, (in_rows _ _).1⟩
structure Rts (n : Nat) (A : List Ang) (m : Mu) (r q : Nat) (F E : List Vec) (m' : Mu) : Prop where
  ex : Ex m m'
  fo : m'[r]? = some (.lst (rowsV n F))
  fr : m'[q]? = some (.lst (rowsV n E))
  gF : ∀ v ∈ F, Root n (wt A) v ∧ Hi v
  gE : ∀ v ∈ E, Root n (wt A) v
theorem Rts.step {r q : Nat} {F E : List Vec} {m' m'' : Mu} (h : Rts n A m r q F E m') (x : Ex m' m'') : Rts n A m r q F E m'' := ⟨h.ex.trans x, x _ _ h.fo, x _ _ h.fr, h.gF, h.gE⟩
theorem roots_flt (G : Good n A) {E : List Vec} (hE : ∀ v ∈ E, Root n (wt A) v) (δ : Dl) (hl : δ.length = 9) :
    ∃ L : List Vec, comp2 (name2 6) (bool2 (op2 geD (on2 minF (cons2 (var2 6) nil2)) (con2 (.int 0)))) (var2 6) δ (rowsV n E) m = .ok (rowsV n L) m ∧ L.length ≤ E.length ∧ ∀ v ∈ L, Root n (wt A) v ∧ Hi v := by
  obtain ⟨m', e, rfl⟩ := comp_flt (g := name2 6) (tt := bool2 (op2 geD (on2 minF (cons2 (var2 6) nil2)) (con2 (.int 0)))) (te := var2 6) (δ := δ) (I := fun m' => m' = m) (p := fun v : Vec => RowD n v) (q := fun v : Vec => RowD n v) (b := fun v => @decide (∀ i, i < n → 0 ≤ v i) (Classical.propDecidable _)) E (m := m) rfl (fun v hv m' hm => by
    subst hm
    obtain ⟨k, ek, _, hk⟩ := s_min_root (m := m') G (hE v hv)
    have h6 : (δ.set 6 (some (RowD n v)))[6]? = some (some (RowD n v)) := List.getElem?_set_self (by omega)
    have hd : @decide (∀ i, i < n → 0 ≤ v i) (Classical.propDecidable _) = decide (0 ≤ k) := by
      rw [decide_eq_decide, hk]
      constructor
      · intro h i
        by_cases hi : i < n
        · exact h i hi
        · rw [(hE v hv).supp (by omega)]; omega
      · intro h i _
        exact h i
    refine ⟨_, m', name2_ap _ _ _ _, ?_, rfl, fun _ => ⟨m', ?_, rfl⟩⟩
    · rw [hd]
      simp -implicitDefEqProofs [h6, ek]
    · simp -implicitDefEqProofs [h6])
  refine ⟨_, e, List.length_filter_le _ _, fun v hv => ?_⟩
  obtain ⟨h1, h2⟩ := List.mem_filter.mp hv
  have h2 := @of_decide_eq_true _ (Classical.propDecidable _) h2
  refine ⟨hE v h1, fun i => ?_⟩
  by_cases hi : i < n
  · exact h2 i hi
  · rw [(hE v h1).supp (by omega)]; omega
end
end K21
set_option linter.all false
set_option maxRecDepth 100000
set_option maxHeartbeats 1000000
set_option Elab.async false
namespace K21
open Dn Br Cox
section
variable {n : Nat} {A : List Ang} {m : Mu}
theorem while2_succ (tc : Dl → Mu → Rs Bool) (tb : Dl → Mu → Ro) (k : Nat) (δ : Dl) (m : Mu) : while2 tc tb (k + 1) δ m = (tc δ m).thn δ fun b m => if b = true then match tb δ m with
      | .next δ m => while2 tc tb k δ m
      | .cnt δ m => while2 tc tb k δ m
      | .brk δ m => .next δ m
      | r => r
    else .next δ m := rfl
def much (A : List Ang) (s i : Nat) : Int := if i = s then -2 else wt A s i
theorem refl_alpha2 {s i : Nat} (hi : i < n) : refl n (wt A) s (alpha i) = lin 1 (alpha i) (much A s i) (alpha s) := by
  funext k
  unfold refl lin much
  by_cases h : i = s
  · subst h
    rw [lam_self]
    by_cases hk : k = i
    · rw [if_pos hk, if_pos rfl, hk]; simp [alpha]
    · rw [if_neg hk, if_pos rfl]; simp [alpha, hk]
  · rw [lam_alpha hi h]
    by_cases hk : k = s
    · rw [if_pos hk, if_neg h, hk]
      simp [alpha, show ¬ s = i from fun e => h e.symm]
    · rw [if_neg hk, if_neg h]; simp [alpha, hk]
theorem act_snoc2 {q : List Nat} {s i : Nat} (hi : i < n) : act n (wt A) (q ++ [s]) (alpha i) = lin 1 (act n (wt A) q (alpha i)) (much A s i) (act n (wt A) q (alpha s)) := by
  rw [act_append, act_cons, act_nil, refl_alpha2 hi, act_lin]
theorem add_comp (v u : Vec) (a : Int) (ha : small64 a = true) (δ : Dl) (hl : δ.length = 10) (h7 : δ[7]? = some (some (.int a))) :
    comp2 (tupG 2 (gcons2 (name2 8) (gcons2 (name2 9) gnil2))) yes2 (op2 addD (var2 8) (op2 mulD (var2 7) (var2 9))) δ (List.zipWith (fun a b => D.tup [a, b]) (rowL n v) (rowL n u)) m = .ok (rowL n (lin 1 v a u)) m := by
  have ez : List.zipWith (fun a b => D.tup [a, b]) (rowL n v) (rowL n u) = (List.range n).map fun j => D.tup [.int (v j), .int (u j)] := by
    unfold rowL
    rw [zip_range]
  rw [ez]
  have := comp_mapP (g := tupG 2 (gcons2 (name2 8) (gcons2 (name2 9) gnil2))) (te := op2 addD (var2 8) (op2 mulD (var2 7) (var2 9))) (δ := δ) (m := m) (ds := (List.range n).map fun j => D.tup [.int (v j), .int (u j)])
    (f := fun d => match d with | .tup [.int x, .int y] => .int (x + a * y) | d => d) (fun d hd => by
      obtain ⟨j, hj, rfl⟩ := List.mem_map.mp hd
      have g8 : ((δ.set 8 (some (D.int (v j)))).set 9 (some (.int (u j))))[8]? = some (some (.int (v j))) := by rw [List.getElem?_set_ne (by decide), List.getElem?_set_self (by omega)]
      have g9 : ((δ.set 8 (some (D.int (v j)))).set 9 (some (.int (u j))))[9]? = some (some (.int (u j))) := List.getElem?_set_self (by rw [List.length_set]; omega)
      have g7 : ((δ.set 8 (some (D.int (v j)))).set 9 (some (.int (u j))))[7]? = some (some (.int a)) := by rw [List.getElem?_set_ne (by decide), List.getElem?_set_ne (by decide)]; exact h7
      refine ⟨(δ.set 8 (some (D.int (v j)))).set 9 (some (.int (u j))), by simp -implicitDefEqProofs, ?_⟩
      simp -implicitDefEqProofs [g7, g8, g9, ha])
  rw [this, List.map_map]
  unfold rowL lin
  congr 1
  refine List.map_congr_left fun j _ => ?_
  show D.int (v j + a * u j) = _
  rw [Int.one_mul]
def body_tl : Dl → Mu → Ro := (seq2 (asg2 (ifV (bool2 (op2 eqD (var2 5) (var2 2))) (un2 negD (con2 (.int 2))) (op2 idxD (op2 idxD (var2 0) (var2 2)) (var2 5))) (name2 7))
      (expr2 (bm2 "list" appendM (var2 4) (cons2 (on2 tupleD (cons2 (lc2 (on2 zipD (cons2 (var2 6) (cons2 (var2 3) nil2))) (tupG 2 (gcons2 (name2 8) (gcons2 (name2 9) gnil2))) yes2 (op2 addD (var2 8) (op2 mulD (var2 7) (var2 9))) [8, 9]) nil2)) nil2))))
theorem much_small (G : Good n A) (s i : Nat) : small64 (much A s i) = true := by
  unfold much
  by_cases h : i = s
  · rw [if_pos h]; exact small64_of (by decide) (by decide)
  · rw [if_neg h]
    have := wt_bound G (i := s) (j := i) (fun e => h e.symm)
    exact small64_of (by omega) (by omega)
theorem rowsD_get {q : List Nat} {k : Nat} (h : k < n) : ((List.range n).map fun i => RowD n (act n (wt A) q (alpha i)))[k]? = some (RowD n (act n (wt A) q (alpha k))) := by simp [h]
theorem s_times_letter (G : Good n A) (q : List Nat) {s : Nat} (hs : s < n) : ∃ m', F_times_letter [wall n A, rowsD n A q, .int s] m = .ok (rowsD n A (q ++ [s])) m' ∧ Ex m m' := by
  have h6 := G.n6
  have L := for_on (g := tupG 2 (gcons2 (name2 5) (gcons2 (name2 6) gnil2))) (tb := body_tl) (p := fun (k : Nat) => D.tup [.int (k : Int), RowD n (act n (wt A) q (alpha k))]) (l := List.range n)
    (I := fun i δ m' => ∃ (x5 x6 x7 : Option D), δ = [some (wall n A), some (rowsD n A q), some (.int (s : Int)), some (RowD n (act n (wt A) q (alpha s))), some (.ref m.length), x5, x6, x7, none, none] ∧ Ex m m' ∧ m'[m.length]? = some (.lst ((List.range i).map fun i => RowD n (act n (wt A) (q ++ [s]) (alpha i)))) ∧ i ≤ n)
    (fun i k δ m' hk hI => by
      obtain ⟨x5, x6, x7, rfl, hx, hc, hi⟩ := hI
      obtain ⟨hi, rfl⟩ := range_get hk
      have ha := add_comp (n := n) (m := m') (act n (wt A) q (alpha k)) (act n (wt A) q (alpha s)) (much A s k) (much_small G s k) [some (wall n A), some (rowsD n A q), some (.int (s : Int)), some (RowD n (act n (wt A) q (alpha s))), some (.ref m.length), some (.int (k : Int)), some (RowD n (act n (wt A) q (alpha k))), some (.int (much A s k)), none, none] rfl rfl
      rw [← act_snoc2 (A := A) (q := q) hi] at ha
      have hlen : n ≤ 16777216 := by omega
      have hrl : (rowL n (act n (wt A) (q ++ [s]) (alpha k))).length = n := rowL_len _ _
      have ht : tyK "list" (lookC m.length m'[m.length]?) = true := by rw [hc]; rfl
      refine ⟨_, m'.set m.length (.lst ((List.range (k + 1)).map fun i => RowD n (act n (wt A) (q ++ [s]) (alpha i)))), .inl ?_, some (.int (k : Int)), some (RowD n (act n (wt A) q (alpha k))), some (.int (much A s k)), rfl, hx.set (Nat.le_refl _), by rw [List.getElem?_set_self (mu_lt hc)], by omega⟩
      have e3 : (List.range (k + 1)).map (fun i => RowD n (act n (wt A) (q ++ [s]) (alpha i))) = (List.range k).map (fun i => RowD n (act n (wt A) (q ++ [s]) (alpha i))) ++ [RowD n (act n (wt A) (q ++ [s]) (alpha k))] := by rw [List.range_succ, List.map_append]; rfl
      rw [e3]
      generalize act n (wt A) (q ++ [s]) (alpha k) = z at *
      have hk16 : k < 16777216 := by omega
      by_cases hks : k = s
      · have hm : much A s k = -2 := if_pos hks
        rw [hm] at ha ⊢
        have hks' : (k : Int) = (s : Int) := by omega
        unfold pass
        simp -implicitDefEqProofs [body_tl, hks'] at ha ⊢
        simp -implicitDefEqProofs [ha, hc, SZ_val, hlen, hrl, hk16]
      · have hm : much A s k = w0 A s k := by unfold much w0; rw [if_neg hks, if_neg hks]
        rw [hm] at ha ⊢
        have hks' : ¬ (k : Int) = (s : Int) := by omega
        have hw := idx_wall (m := m') (A := A) hs
        have hw2 : idxK (wrow n A s) (.int k) m' = .ok (.int (w0 A s k)) m' := by
          unfold wrow
          simp -implicitDefEqProofs [hi]
        have lw : look m' (wrow n A s) = wrow n A s := rfl
        unfold pass
        simp -implicitDefEqProofs [body_tl, hks', look_wall, hw, lw, hw2] at ha ⊢
        simp -implicitDefEqProofs [ha, hc, SZ_val, hlen, hrl, hk16])
    [some (wall n A), some (rowsD n A q), some (.int (s : Int)), some (RowD n (act n (wt A) q (alpha s))), some (.ref m.length), none, none, none, none, none] (m ++ [.lst []]) ⟨none, none, none, rfl, fun i c e => by rw [List.getElem?_append_left (mu_lt e)]; exact e, by simp, by omega⟩
  obtain ⟨δ', m', e, x5, x6, x7, rfl, hx, hc, _⟩ := L
  rw [List.length_range] at hc
  refine ⟨m', ?_, hx⟩
  have hz : List.map (fun p : D × Nat => D.tup [.int (p.2 : Nat), p.1]) (((List.range n).map fun i => RowD n (act n (wt A) q (alpha i))).zipIdx) = (List.range n).map fun (k : Nat) => D.tup [.int (k : Int), RowD n (act n (wt A) q (alpha k))] := zipIdx_map _ _ n
  have hg := rowsD_get (A := A) (q := q) hs
  have er := rowsD_eq n A q
  rw [er] at e ⊢
  unfold body_tl at e
  have el : (List.map (fun i => RowD n (act n (wt A) (q ++ [s]) (alpha i))) (List.range n)).length ≤ 16777216 := by simp; omega
  simp -implicitDefEqProofs [F_times_letter_eq, tb_times_letter_eq, hs, SZ_val, hz, e, hc, el]
  rfl
/-! which letters shorten from behind -/
noncomputable def fl (n : Nat) (A : List Ang) (q : List Nat) : List Nat := (List.range n).filter fun s => @decide (Lo (act n (wt A) q (alpha s))) (Classical.propDecidable _)
theorem mem_fl {q : List Nat} {s : Nat} : s ∈ fl n A q ↔ s < n ∧ Lo (act n (wt A) q (alpha s)) := by
  unfold fl
  rw [List.mem_filter, List.mem_range]
  exact and_congr_right fun _ => ⟨fun h => @of_decide_eq_true _ (Classical.propDecidable _) h, fun h => @decide_eq_true _ (Classical.propDecidable _) h⟩
theorem fl_sorted (q : List Nat) : (fl n A q).Pairwise (· < ·) := List.Pairwise.filter _ (List.pairwise_lt_range)
theorem s_is_below (G : Good n A) {v : Vec} (hv : Root n (wt A) v) : F_is_below [RowD n v] m = .ok (.bl (@decide (Lo v) (Classical.propDecidable _))) m := by
  obtain ⟨k, e, hk, _⟩ := s_min_root (m := m) G hv
  have : @decide (Lo v) (Classical.propDecidable _) = decide (k < 0) := by
    rw [decide_eq_decide]
    exact hk.symm
  rw [this]
  simp -implicitDefEqProofs [F_is_below_eq, tb_is_below_eq, e]
theorem root_at {q : List Nat} (hq : Lt n q) {s : Nat} (hs : s < n) : Root n (wt A) (act n (wt A) q (alpha s)) := (Root.alpha hs).act hq
noncomputable def flD (n : Nat) (A : List Ang) (q : List Nat) : List D := (fl n A q).map fun (k : Nat) => D.int (k : Int)
theorem s_falls (G : Good n A) {q : List Nat} (hq : Lt n q) : F_falls [rowsD n A q] m = .ok (.lst (flD n A q)) m := by
  have h6 := G.n6
  obtain ⟨m', e, rfl⟩ := comp_flt (g := tupG 2 (gcons2 (name2 1) (gcons2 (name2 2) gnil2))) (tt := tst2 (on2 F_is_below (cons2 (var2 2) nil2))) (te := var2 1) (δ := [some (rowsD n A q), none, none]) (I := fun m' => m' = m) (p := fun (k : Nat) => D.tup [.int (k : Int), RowD n (act n (wt A) q (alpha k))]) (q := fun (k : Nat) => D.int (k : Int)) (b := fun s => @decide (Lo (act n (wt A) q (alpha s))) (Classical.propDecidable _)) (List.range n) (m := m) rfl (fun k hk m' hm => by
    subst hm
    have hk := List.mem_range.mp hk
    have e := s_is_below (m := m') G (root_at (A := A) hq hk)
    refine ⟨[some (rowsD n A q), some (.int (k : Int)), some (RowD n (act n (wt A) q (alpha k)))], m', by simp -implicitDefEqProofs, ?_, rfl, fun _ => ⟨m', ?_, rfl⟩⟩
    · simp -implicitDefEqProofs [e]
    · simp -implicitDefEqProofs)
  have hz : List.map (fun p : D × Nat => D.tup [.int (p.2 : Nat), p.1]) (((List.range n).map fun i => RowD n (act n (wt A) q (alpha i))).zipIdx) = (List.range n).map fun (k : Nat) => D.tup [.int (k : Int), RowD n (act n (wt A) q (alpha k))] := zipIdx_map _ _ n
  rw [rowsD_eq] at e ⊢
  have hl : (flD n A q).length ≤ 16777216 := by
    have := List.length_filter_le (fun s => @decide (Lo (act n (wt A) q (alpha s))) (Classical.propDecidable _)) (List.range n)
    rw [List.length_range] at this
    unfold flD fl
    rw [List.length_map]
    omega
  have e : comp2 (tupG 2 (gcons2 (name2 1) (gcons2 (name2 2) gnil2))) (tst2 (on2 F_is_below (cons2 (var2 2) nil2))) (var2 1) [some (.tup ((List.range n).map fun i => RowD n (act n (wt A) q (alpha i)))), none, none] ((List.range n).map fun (k : Nat) => D.tup [.int (k : Int), RowD n (act n (wt A) q (alpha k))]) m' = .ok (flD n A q) m' := e
  simp -implicitDefEqProofs [F_falls_eq, tb_falls_eq, hz, e, SZ_val, hl]
/-! the first word -/
def tc_wf : Dl → Mu → Rs Bool := bool2 (op2 neD (var2 4) (lst2 nil2))
def body_wf : Dl → Mu → Ro := (seq2 (asg2 (op2 addD (var2 3) (op2 idxD (un2 (propD [("Mirrors", F_Mirrors_letters)]) (var2 0)) (op2 idxD (var2 4) (con2 (.int 0))))) (name2 3))
      (seq2 (asg2 (on2 F_times_letter (cons2 (var2 2) (cons2 (var2 1) (cons2 (op2 idxD (var2 4) (con2 (.int 0))) nil2)))) (name2 1))
      (asg2 (on2 F_falls (cons2 (var2 1) nil2)) (name2 4))))
theorem nmI (l : List Nat) : Nm 1 (.lst (l.map fun (k : Nat) => D.int (k : Int))) := .lst fun d hd => by
  obtain ⟨k, _, rfl⟩ := List.mem_map.mp hd
  exact .int
theorem at_range {k : Nat} (h : k < n) (h6 : n ≤ 6) : L2.atI (wc (List.range n)) (k : Int) = some (97 + k) := by
  rw [atI_nat]
  unfold wc
  simp [h]
theorem s_wf (G : Good n A) : ∀ (k : Nat) {q : List Nat} {m : Mu}, Lt n q → len n (wt A) q = k → ∀ (y : List Nat), y.length + k ≤ 1000 → ∀ f, k < f →
    ∃ x q' m', while2 tc_wf body_wf f [some (mir n A), some (rowsD n A q), some (wall n A), some (Wrd y), some (.lst (flD n A q))] m = .next [some (mir n A), some (rowsD n A q'), some (wall n A), some (Wrd (y ++ x)), some (.lst [])] m' ∧ Greedy n (wt A) q x ∧ Ex m m' := by
  have h6 := G.n6
  intro k
  induction k with
  | zero =>
    intro q m hq hk y hy f hf
    have hfl : fl n A q = [] := by
      rw [List.eq_nil_iff_forall_not_mem]
      intro s hs
      obtain ⟨h1, h2⟩ := mem_fl.mp hs
      have := lo_len (okc G) hq h1 h2
      omega
    obtain ⟨f, rfl⟩ : ∃ g, f = g + 1 := ⟨f - 1, by omega⟩
    refine ⟨[], q, m, ?_, .nil fun s hs hl => ?_, .refl⟩
    · rw [while2_succ]
      have q1 : eqB m (.lst []) (.lst []) = some true := eqB_nil
      have hfD : flD n A q = [] := by unfold flD; rw [hfl]; rfl
      rw [hfD]
      simp -implicitDefEqProofs [tc_wf, q1]
    · have := mem_fl.mpr ⟨hs, hl⟩
      rw [hfl] at this
      cases this
  | succ k ih =>
    intro q m hq hk y hy f hf
    obtain ⟨f, rfl⟩ : ∃ g, f = g + 1 := ⟨f - 1, by omega⟩
    cases hfl : fl n A q with
    | nil =>
      refine ⟨[], q, m, ?_, .nil fun s hs hl => ?_, .refl⟩
      · rw [while2_succ]
        have q1 : eqB m (.lst []) (.lst []) = some true := eqB_nil
        have hfD : flD n A q = [] := by unfold flD; rw [hfl]; rfl
        rw [hfD]
        simp -implicitDefEqProofs [tc_wf, q1]
      · have := mem_fl.mpr ⟨hs, hl⟩
        rw [hfl] at this
        cases this
    | cons s r =>
      obtain ⟨hs, hlo⟩ := mem_fl.mp (show s ∈ fl n A q by rw [hfl]; exact List.mem_cons_self)
      have hmin : ∀ t, t < s → ¬ Lo (act n (wt A) q (alpha t)) := fun t ht hl => by
        have h1 := mem_fl.mpr ⟨by omega, hl⟩
        rw [hfl] at h1
        have h2 := fl_sorted (n := n) (A := A) q
        rw [hfl] at h2
        rcases List.mem_cons.mp h1 with h3 | h3
        · omega
        · have := (List.pairwise_cons.mp h2).1 t h3
          omega
      have hl := lo_len (okc G) hq hs hlo
      obtain ⟨m1, e1, x1⟩ := s_times_letter (m := m) G q hs
      have hq' := hq.app (Lt.one hs)
      have e2 := s_falls (m := m1) G hq'
      obtain ⟨x, q', m2, e3, g3, x3⟩ := ih (m := m1) hq' (by omega) (y ++ [s]) (by simp; omega) f (by omega)
      refine ⟨s :: x, q', m2, ?_, .cons hs hlo hmin g3, x1.trans x3⟩
      rw [while2_succ]
      have eF : flD n A q = (s :: r).map fun (k : Nat) => D.int (k : Int) := by unfold flD; rw [hfl]
      have q1 : eqB m (.lst ((s :: r).map fun (k : Nat) => D.int (k : Int))) (.lst []) = some false := (nmI _).eqB_f (nmI []) (by decide) (by decide) (by simp)
      rw [eF]
      have ha := at_range hs h6
      have hw : wc y ++ [97 + s] = wc (y ++ [s]) := by simp [wc]
      have hb : body_wf [some (mir n A), some (rowsD n A q), some (wall n A), some (Wrd y), some (.lst ((s :: r).map fun (k : Nat) => D.int (k : Int)))] m = .next [some (mir n A), some (rowsD n A (q ++ [s])), some (wall n A), some (Wrd (y ++ [s])), some (.lst (flD n A (q ++ [s])))] m1 := by
        simp -implicitDefEqProofs [-atI_nat, body_wf, s_letters G, ha, SZ_val, wc_len, show n ≤ 16777216 by omega, hw, e1, e2, show y.length + 1 ≤ 16777216 by omega]
      have ht : tc_wf [some (mir n A), some (rowsD n A q), some (wall n A), some (Wrd y), some (.lst ((s :: r).map fun (k : Nat) => D.int (k : Int)))] m = .ok true m := by
        simp -implicitDefEqProofs only [List.map_cons] at q1 ⊢
        simp -implicitDefEqProofs [tc_wf, q1]
      rw [ht]
      simp -implicitDefEqProofs only [Rs.thn_ok, if_pos, hb]
      rw [e3]
      simp
theorem s_words_from (G : Good n A) {q : List Nat} (hq : Lt n q) (hl : len n (wt A) q ≤ 500) : ∃ x m', F_words_from [mir n A, rowsD n A q] m = .ok (Wrd x) m' ∧ Greedy n (wt A) q x ∧ Ex m m' := by
  obtain ⟨m1, e1, g1⟩ := s_weights_of G m
  have e2 := s_falls (m := m1) G hq
  obtain ⟨N, hN⟩ : ∃ N : Nat, N = fuel_words_from := ⟨_, rfl⟩
  have hN2 : 500 < N := by rw [hN]; decide +kernel
  obtain ⟨x, q', m2, e3, g3, x3⟩ := s_wf (m := m1) G _ hq rfl [] (by simp; omega) N (by omega)
  refine ⟨x, m2, ?_, g3, (Gr.ex g1).trans x3⟩
  have u2 : ofS "" = wc [] := by decide +kernel
  unfold tc_wf body_wf at e3
  rw [hN] at e3
  simp -implicitDefEqProofs [F_words_from_eq, tb_words_from_eq, e1, e2, u2, e3]
theorem s_first_of (G : Good n A) {w : List Nat} (hw : Lt n w) (hl : w.length ≤ 100) : ∃ x m', F_first_of [mir n A, Wrd w] m = .ok (Wrd x) m' ∧ Fst n A w x ∧ Ex m m' := by
  obtain ⟨m1, e1, g1⟩ := s_all_sent G hw.rev (by simp; omega) m
  have e1 : F_all_sent [mir n A, Wrd w.reverse] m = .ok (rowsD n A w.reverse) m1 := e1
  have h1 := len_le_length (c := wt A) hw.rev
  rw [List.length_reverse] at h1
  obtain ⟨x, m2, e2, g2, x2⟩ := s_words_from (m := m1) G hw.rev (by omega)
  refine ⟨x, m2, ?_, greedy_fst G hw g2, (Gr.ex g1).trans x2⟩
  have hrv := wc_rev w
  simp -implicitDefEqProofs [F_first_of_eq, tb_first_of_eq, wc_len, SZ_val, show w.length ≤ 16777216 by omega, hrv, e1, e2]
end
end K21
set_option linter.all false
set_option maxRecDepth 100000
set_option maxHeartbeats 1000000
set_option Elab.async false
namespace K21
open Dn Br Cox
section
variable {n : Nat} {A : List Ang} {m : Mu}
theorem s_first_fall (G : Good n A) {q J : List Nat} (hq : Lt n q) : ∃ d, F_first_fall [mir n A, rowsD n A q, Wrd J] m = .ok d m ∧ ((d = .non ∧ Rest n (wt A) J q) ∨ ∃ s : Nat, d = .int (s : Int) ∧ s < n ∧ s ∈ J ∧ Lo (act n (wt A) q (alpha s))) := by
  have h6 := G.n6
  have e1 := s_falls (m := m) G hq
  obtain ⟨m', e, rfl⟩ := comp_flt (g := name2 4) (tt := bool2 (op2 inD (op2 idxD (un2 (propD [("Mirrors", F_Mirrors_letters)]) (var2 0)) (var2 4)) (var2 2))) (te := var2 4) (δ := [some (mir n A), some (rowsD n A q), some (Wrd J), none, none]) (I := fun m' => m' = m) (p := fun (k : Nat) => D.int (k : Int)) (q := fun (k : Nat) => D.int (k : Int)) (b := fun s => decide (s ∈ J)) (fl n A q) (m := m) rfl (fun k hk m' hm => by
    subst hm
    obtain ⟨hk, _⟩ := mem_fl.mp hk
    have ha := at_range hk h6
    have hin : decide (97 + k ∈ wc J) = decide (k ∈ J) := by rw [decide_eq_decide]; exact mem_wc
    refine ⟨_, m', name2_ap _ _ _ _, ?_, rfl, fun _ => ⟨m', ?_, rfl⟩⟩
    · simp -implicitDefEqProofs [-atI_nat, s_letters G, ha, SZ_val, wc_len, show n ≤ 16777216 by omega, hin, fold_lc]
      have hc : inK1 m' (.str [97 + k]) (.str (wc J)) = some (decide (97 + k ∈ wc J)) := rfl
      rw [show (D.str (lc k)) = .str [97 + k] from rfl, hc, hin]
      rfl
    · simp -implicitDefEqProofs)
  have e : comp2 (name2 4) (bool2 (op2 inD (op2 idxD (un2 (propD [("Mirrors", F_Mirrors_letters)]) (var2 0)) (var2 4)) (var2 2))) (var2 4) [some (mir n A), some (rowsD n A q), some (Wrd J), none, none] (flD n A q) m' = .ok (((fl n A q).filter fun s => decide (s ∈ J)).map fun (k : Nat) => D.int (k : Int)) m' := e
  have hl : ((fl n A q).filter fun s => decide (s ∈ J)).length ≤ 16777216 := by
    have h1 := List.length_filter_le (fun s => decide (s ∈ J)) (fl n A q)
    have h2 := List.length_filter_le (fun s => @decide (Lo (act n (wt A) q (alpha s))) (Classical.propDecidable _)) (List.range n)
    rw [List.length_range] at h2
    unfold fl at h1 ⊢
    omega
  cases hf : (fl n A q).filter fun s => decide (s ∈ J) with
  | nil =>
    rw [hf] at e
    refine ⟨.non, ?_, .inl ⟨rfl, fun s hs hn hlo => ?_⟩⟩
    · have q1 : eqB m' (.lst []) (.lst []) = some true := eqB_nil
      simp -implicitDefEqProofs [F_first_fall_eq, tb_first_fall_eq, e1, e, q1, SZ_val]
    · have : s ∈ (fl n A q).filter fun s => decide (s ∈ J) := List.mem_filter.mpr ⟨mem_fl.mpr ⟨hn, hlo⟩, by simpa using hs⟩
      rw [hf] at this
      cases this
  | cons s r =>
    have hs : s ∈ (fl n A q).filter fun s => decide (s ∈ J) := by rw [hf]; exact List.mem_cons_self
    obtain ⟨h1, h2⟩ := List.mem_filter.mp hs
    obtain ⟨h3, h4⟩ := mem_fl.mp h1
    rw [hf] at e hl
    refine ⟨.int (s : Int), ?_, .inr ⟨s, rfl, h3, by simpa using h2, h4⟩⟩
    have q1 : eqB m' (.lst ((s :: r).map fun (k : Nat) => D.int (k : Int))) (.lst []) = some false := (nmI _).eqB_f (nmI []) (by decide) (by decide) (by simp)
    simp -implicitDefEqProofs only [List.map_cons] at q1 e
    simp only [List.length_cons] at hl
    simp -implicitDefEqProofs [F_first_fall_eq, tb_first_fall_eq, e1, e, q1, SZ_val, hl]
def tc_co : Dl → Mu → Rs Bool := bool2 (op2 isntD (var2 6) (con2 .non))
def body_co : Dl → Mu → Ro := (seq2 (asg2 (op2 addD (op2 idxD (un2 (propD [("Mirrors", F_Mirrors_letters)]) (var2 0)) (var2 6)) (var2 5)) (name2 5))
      (seq2 (asg2 (on2 F_times_letter (cons2 (var2 3) (cons2 (var2 4) (cons2 (var2 6) nil2)))) (name2 4))
      (asg2 (on2 F_first_fall (cons2 (var2 0) (cons2 (var2 4) (cons2 (var2 2) nil2)))) (name2 6))))
/-- letters of J taken off from behind -/
structure CutB (n : Nat) (A : List Ang) (J q b : List Nat) : Prop where
  lt : Lt n b
  sub : Sub J b
  rest : Rest n (wt A) J (q ++ b)
  len : len n (wt A) (q ++ b) + b.length = len n (wt A) q
theorem s_co (G : Good n A) {J : List Nat} (W : Option D) : ∀ (k : Nat) {q : List Nat} {m : Mu} {d : D}, Lt n q → len n (wt A) q ≤ k → F_first_fall [mir n A, rowsD n A q, Wrd J] m = .ok d m → ((d = .non ∧ Rest n (wt A) J q) ∨ ∃ s : Nat, d = .int (s : Int) ∧ s < n ∧ s ∈ J ∧ Lo (act n (wt A) q (alpha s))) → ∀ (y : List Nat), y.length + k ≤ 1000 → ∀ f, k < f →
    ∃ b q' m', while2 tc_co body_co f [some (mir n A), W, some (Wrd J), some (wall n A), some (rowsD n A q), some (Wrd y), some d] m = .next [some (mir n A), W, some (Wrd J), some (wall n A), some (rowsD n A q'), some (Wrd (b.reverse ++ y)), some .non] m' ∧ CutB n A J q b ∧ Ex m m' := by
  have h6 := G.n6
  intro k
  induction k with
  | zero =>
    intro q m d hq hk he hd y hy f hf
    obtain ⟨f, rfl⟩ : ∃ g, f = g + 1 := ⟨f - 1, by omega⟩
    rcases hd with ⟨rfl, hr⟩ | ⟨s, rfl, hs, hJ, hlo⟩
    · refine ⟨[], q, m, ?_, ⟨.nil, .nil, by simpa using hr, by simp⟩, .refl⟩
      rw [while2_succ]
      simp -implicitDefEqProofs [tc_co]
    · have := lo_len (okc G) hq hs hlo
      omega
  | succ k ih =>
    intro q m d hq hk he hd y hy f hf
    obtain ⟨f, rfl⟩ : ∃ g, f = g + 1 := ⟨f - 1, by omega⟩
    rcases hd with ⟨rfl, hr⟩ | ⟨s, rfl, hs, hJ, hlo⟩
    · refine ⟨[], q, m, ?_, ⟨.nil, .nil, by simpa using hr, by simp⟩, .refl⟩
      rw [while2_succ]
      simp -implicitDefEqProofs [tc_co]
    · have hl := lo_len (okc G) hq hs hlo
      obtain ⟨m1, e1, x1⟩ := s_times_letter (m := m) G q hs
      have hq' := hq.app (Lt.one hs)
      obtain ⟨d', e2, h2⟩ := s_first_fall (m := m1) (J := J) G hq'
      obtain ⟨b, q', m2, e3, cb, x3⟩ := ih (m := m1) hq' (by omega) e2 h2 (s :: y) (by simp; omega) f (by omega)
      refine ⟨s :: b, q', m2, ?_, ⟨fun i hi => ?_, fun i hi => ?_, by simpa using cb.rest, ?_⟩, x1.trans x3⟩
      · rw [while2_succ]
        have ha := at_range hs h6
        have hw : (97 + s) :: wc y = wc (s :: y) := rfl
        have hb : body_co [some (mir n A), W, some (Wrd J), some (wall n A), some (rowsD n A q), some (Wrd y), some (.int (s : Int))] m = .next [some (mir n A), W, some (Wrd J), some (wall n A), some (rowsD n A (q ++ [s])), some (Wrd (s :: y)), some d'] m1 := by
          simp -implicitDefEqProofs [-atI_nat, body_co, s_letters G, ha, SZ_val, wc_len, show n ≤ 16777216 by omega, hw, e1, e2, show 1 + y.length ≤ 16777216 by omega]
        have ht : tc_co [some (mir n A), W, some (Wrd J), some (wall n A), some (rowsD n A q), some (Wrd y), some (.int (s : Int))] m = .ok true m := by
          simp -implicitDefEqProofs [tc_co]
        rw [ht]
        simp -implicitDefEqProofs only [Rs.thn_ok, if_pos, hb]
        rw [e3]
        simp
      · rcases List.mem_cons.mp hi with rfl | hi
        · exact hs
        · exact cb.lt i hi
      · rcases List.mem_cons.mp hi with rfl | hi
        · exact hJ
        · exact cb.sub i hi
      · have := cb.len
        have e4 : q ++ [s] ++ b = q ++ s :: b := by simp
        rw [e4] at this
        rw [List.length_cons]
        omega
theorem s_cut_off (G : Good n A) {w J : List Nat} (hw : Lt n w) (hl : w.length ≤ 50) : ∃ b x m', F_cut_off [mir n A, Wrd w, Wrd J] m = .ok (.tup [Wrd b.reverse, Wrd x]) m' ∧ CutB n A J w b ∧ Fst n A (w ++ b) x ∧ Ex m m' := by
  obtain ⟨m1, e1, g1⟩ := s_weights_of G m
  obtain ⟨m2, e2, g2⟩ := s_all_sent G hw (by omega) m1
  have e2 : F_all_sent [mir n A, Wrd w] m1 = .ok (rowsD n A w) m2 := e2
  obtain ⟨d, e3, h3⟩ := s_first_fall (m := m2) (J := J) G hw
  have h1 := len_le_length (c := wt A) hw
  obtain ⟨N, hN⟩ : ∃ N : Nat, N = fuel_cut_off := ⟨_, rfl⟩
  have hN2 : 500 < N := by rw [hN]; decide +kernel
  obtain ⟨b, q', m4, e4, cb, x4⟩ := s_co (m := m2) G (some (Wrd w)) 50 hw (by omega) e3 h3 [] (by simp) N (by omega)
  have hbl : b.length ≤ 50 := by have := cb.len; omega
  obtain ⟨x, m5, e5, fx, x5⟩ := s_first_of (m := m4) G (hw.app cb.lt) (by simp; omega)
  refine ⟨b, x, m5, ?_, cb, fx, ((Gr.ex (g1.trans g2)).trans x4).trans x5⟩
  have u2 : ofS "" = wc [] := by decide +kernel
  rw [List.append_nil] at e4
  have hrv := wc_rev b.reverse
  rw [List.reverse_reverse] at hrv
  have hap := wc_app w b
  unfold tc_co body_co at e4
  rw [hN] at e4
  simp -implicitDefEqProofs [F_cut_off_eq, tb_cut_off_eq, e1, e2, u2, e3, e4, hrv, SZ_val, wc_len, hap, e5, show w.length + b.length ≤ 16777216 by omega, show b.length ≤ 16777216 by omega]
end
end K21
set_option linter.all false
set_option maxRecDepth 100000
set_option maxHeartbeats 1000000
set_option Elab.async false
namespace K21
open Dn Br Cox
section
variable {n : Nat} {A : List Ang} {m : Mu}
theorem zip_lt : ∀ {J : List Nat}, J.Pairwise (· < ·) → ∀ p ∈ J.zip (J.drop 1), p.1 < p.2
  | [], _, p, hp => by simp at hp
  | [x], _, p, hp => by simp at hp
  | x :: y :: J, h, p, hp => by
    have h2 := List.pairwise_cons.mp h
    simp only [List.drop_succ_cons, List.drop_zero, List.zip_cons_cons] at hp
    rcases List.mem_cons.mp hp with rfl | hp
    · exact h2.1 y List.mem_cons_self
    · exact zip_lt h2.2 p hp
theorem zipWith_lt (a b : List Nat) : List.zipWith (fun a b => D.tup [a, b]) (a.map fun j => Lt1 j) (b.map fun j => Lt1 j) = (a.zip b).map fun p => D.tup [Lt1 p.1, Lt1 p.2] := by
  rw [List.zipWith_map, List.zip, List.map_zipWith]
theorem in_comp5 (G : Good n A) {w : List Nat} (hw : Lt n w) (δ : Dl) (h0 : δ[0]? = some (some (mir n A))) (hl : δ.length = 5) :
    comp2 (name2 2) yes2 (op2 inD (var2 2) (un2 (propD [("Mirrors", F_Mirrors_letters)]) (var2 0))) δ (w.map fun j => Lt1 j) m = .ok (w.map fun _ => D.bl true) m := by
  have := comp_mapP (g := name2 2) (te := op2 inD (var2 2) (un2 (propD [("Mirrors", F_Mirrors_letters)]) (var2 0))) (δ := δ) (m := m) (ds := w.map fun j => Lt1 j) (f := fun d => .bl true) (fun d hd => by
    obtain ⟨j, hj, rfl⟩ := List.mem_map.mp hd
    refine ⟨_, name2_ap _ _ _ _, ?_⟩
    have g0 : (δ.set 2 (some (Lt1 j)))[0]? = some (some (mir n A)) := by rw [List.getElem?_set_ne (by decide)]; exact h0
    have g2 : (δ.set 2 (some (Lt1 j)))[2]? = some (some (Lt1 j)) := List.getElem?_set_self (by omega)
    have hm : 97 + j ∈ wc (List.range n) := mem_wc.mpr (List.mem_range.mpr (hw j hj))
    have hin : inK1 m (Lt1 j) (.str (wc (List.range n))) = some true := by
      show inK1 m (.str [97 + j]) _ = _
      rw [inK1_sc]
      simp [hm]
    simp -implicitDefEqProofs [g0, g2, s_letters G, hin])
  rw [this, List.map_map]
  rfl
theorem s_check_lot (G : Good n A) {J : List Nat} (hJ : Lt n J) (hp : J.Pairwise (· < ·)) (hl : J.length ≤ 100) : F_check_lot [mir n A, Wrd J] m = .ok .non m := by
  have h1 := in_comp5 (m := m) G hJ [some (mir n A), some (Wrd J), none, none, none] rfl rfl
  have h2 := comp_mapP (g := tupG 2 (gcons2 (name2 3) (gcons2 (name2 4) gnil2))) (te := op2 ltD (var2 3) (var2 4)) (δ := [some (mir n A), some (Wrd J), none, none, none]) (m := m) (ds := (J.zip J.tail).map fun p => D.tup [Lt1 p.1, Lt1 p.2]) (f := fun d => .bl true) (fun d hd => by
    obtain ⟨p, hp', rfl⟩ := List.mem_map.mp hd
    have hlt := zip_lt hp p (by rw [List.drop_one]; exact hp')
    have hc : ltC (lc p.1) (lc p.2) = true := by rw [lc_lt]; simpa using hlt
    refine ⟨[some (mir n A), some (Wrd J), none, some (Lt1 p.1), some (Lt1 p.2)], by simp -implicitDefEqProofs, ?_⟩
    simp -implicitDefEqProofs [hc])
  rw [List.map_map] at h2
  have hcut : cutL (wc J) (some 1) none = wc (J.drop 1) := by
    have := cut_drop (wc J) 1
    rw [wc_dp] at this
    exact this
  have hb1 := blsOf_fn (fun _ : Nat => true) J
  have hb2 := blsOf_fn (fun _ : Nat × Nat => true) (J.zip J.tail)
  have hz : (J.zip J.tail).length ≤ 16777216 := by rw [List.length_zip]; omega
  have h2 : comp2 (tupG 2 (gcons2 (name2 3) (gcons2 (name2 4) gnil2))) yes2 (op2 ltD (var2 3) (var2 4)) [some (mir n A), some (Wrd J), none, none, none] ((J.zip J.tail).map fun p => D.tup [Lt1 p.1, Lt1 p.2]) m = .ok ((J.zip J.tail).map fun _ => D.bl true) m := h2
  have hzw := zipWith_lt J J.tail
  rw [List.map_tail] at hzw
  simp -implicitDefEqProofs [F_check_lot_eq, tb_check_lot_eq, wc_items, h1, hb1, hcut, hzw, h2, hb2, SZ_val, wc_len, show J.length ≤ 16777216 by omega, show J.length ≤ 16777217 by omega]
theorem s_parted (G : Good n A) {w J : List Nat} (hw : Lt n w) (hl : w.length ≤ 50) (hJ : Lt n J) (hp : J.Pairwise (· < ·)) (hJl : J.length ≤ 100) : ∃ b x y m', F_parted [mir n A, Wrd w, Wrd J] m = .ok (.tup [Wrd x, Wrd y]) m' ∧ CutB n A J w b ∧ Fst n A (w ++ b) x ∧ Fst n A b.reverse y ∧ Ex m m' := by
  obtain ⟨b, x, m1, e1, cb, fx, x1⟩ := s_cut_off (m := m) (J := J) G hw hl
  have hbl : b.length ≤ 50 := by
    have := cb.len
    have := len_le_length (c := wt A) hw
    omega
  obtain ⟨y, m2, e2, fy, x2⟩ := s_first_of (m := m1) G cb.lt.rev (by simp; omega)
  refine ⟨b, x, y, m2, ?_, cb, fx, fy, x1.trans x2⟩
  simp -implicitDefEqProofs [F_parted_eq, tb_parted_eq, s_check_asked G hw (by omega), s_check_lot G hJ hp hJl, e1, e2, SZ_val]
/-! between two lots -/
structure Pass (n : Nat) (A : List Ang) (I J u u' : List Nat) : Prop where
  ex : ∃ b1 b2, Lt n b1 ∧ Lt n b2 ∧ Sub I b1 ∧ Sub J b2 ∧ Fst n A (b1.reverse ++ u ++ b2) u' ∧ len n (wt A) u' + b1.length + b2.length = len n (wt A) u ∧ (b1 = [] → b2 = [] → Rest n (wt A) I u.reverse ∧ Rest n (wt A) J u)
def tc_bc : Dl → Mu → Rs Bool := bool2 (op2 neD (var2 4) (var2 2))
def body_bc : Dl → Mu → Ro := (seq2 (asg2 (var2 2) (name2 4))
      (seq2 (asg2 (un2 revD (op2 idxD (on2 F_cut_off (cons2 (var2 0) (cons2 (un2 revD (var2 2)) (cons2 (var2 1) nil2)))) (con2 (.int 1)))) (name2 2))
      (asg2 (op2 idxD (on2 F_cut_off (cons2 (var2 0) (cons2 (var2 2) (cons2 (var2 3) nil2)))) (con2 (.int 1))) (name2 2))))
theorem bc_pass (G : Good n A) {I J u : List Nat} (hu : Lt n u) (hl : u.length ≤ 50) (x4 : Option D) : ∃ u' m', body_bc [some (mir n A), some (Wrd I), some (Wrd u), some (Wrd J), x4] m = .next [some (mir n A), some (Wrd I), some (Wrd u'), some (Wrd J), some (Wrd u)] m' ∧ Pass n A I J u u' ∧ Lt n u' ∧ u'.length ≤ 50 ∧ Ex m m' := by
  obtain ⟨b1, x1, m1, e1, c1, f1, y1⟩ := s_cut_off (m := m) (J := I) G hu.rev (by simpa using hl)
  have hlu := len_le_length (c := wt A) hu
  have hlr := len_rev (A := A) hu
  have hx1l : x1.length ≤ 50 := by
    have := f1.len (hu.rev.app c1.lt)
    have := c1.len
    omega
  have hx1 := f1.red.1
  obtain ⟨b2, x2, m2, e2, c2, f2, y2⟩ := s_cut_off (m := m1) (J := J) G hx1.rev (by simpa using hx1l)
  have hlen1 := f1.len (hu.rev.app c1.lt)
  have hlr1 := len_rev (A := A) hx1
  have hlen2 := f2.len (hx1.rev.app c2.lt)
  have q1 := c1.len
  have q2 := c2.len
  have q3 := f1.red.2
  have q4 := f2.red.2
  have ee : Eqv n (wt A) (b1.reverse ++ u ++ b2) (x1.reverse ++ b2) := by
    have := f1.eqv.rev
    rw [List.reverse_append, List.reverse_reverse] at this
    exact Eqv.app this .rfl
  refine ⟨x2, m2, ?_, ⟨b1, b2, c1.lt, c2.lt, c1.sub, c2.sub, f2.of ee, by omega, fun z1 z2 => ?_⟩, f2.red.1, by omega, y1.trans y2⟩
  · have h1 := wc_rev u
    have h2 := wc_rev x1
    simp -implicitDefEqProofs [body_bc, h1, h2, e1, e2, SZ_val, wc_len, show u.length ≤ 16777216 by omega, show x1.length ≤ 16777216 by omega]
  · subst z1 z2
    refine ⟨by simpa using c1.rest, ?_⟩
    have r2 : Rest n (wt A) J x1.reverse := by simpa using c2.rest
    have ee : Eqv n (wt A) u x1.reverse := by simpa using ee
    exact r2.eqv ee.symm
/-- what comes of it -/
structure Dbl (n : Nat) (A : List Ang) (I J w x : List Nat) : Prop where
  ex : ∃ a b, Lt n a ∧ Lt n b ∧ Sub I a ∧ Sub J b ∧ Eqv n (wt A) x (a ++ w ++ b)
  rj : Rest n (wt A) J x
  ri : Rest n (wt A) I x.reverse
  fst : Fst n A x x
theorem Dbl.uniq (G : Good n A) {I J w x y : List Nat} (h : Dbl n A I J w x) (h' : Dbl n A I J w y) : x = y := by
  obtain ⟨a, b, la, lb, sa, sb, e⟩ := h.ex
  obtain ⟨a', b', la', lb', sa', sb', e'⟩ := h'.ex
  refine h.fst.uniq h'.fst ?_
  have e2 : Eqv n (wt A) w (a'.reverse ++ y ++ b'.reverse) := by
    have q1 : Eqv n (wt A) (a'.reverse ++ y ++ b'.reverse) (a'.reverse ++ (a' ++ w ++ b') ++ b'.reverse) := Eqv.app (Eqv.app .rfl e') .rfl
    have q2 : Eqv n (wt A) ((a'.reverse ++ a') ++ w ++ (b' ++ b'.reverse)) ([] ++ w ++ []) := Eqv.app (Eqv.app (Eqv.revl a') .rfl) (Eqv.revr b')
    have q3 : a'.reverse ++ (a' ++ w ++ b') ++ b'.reverse = (a'.reverse ++ a') ++ w ++ (b' ++ b'.reverse) := by simp
    rw [q3] at q1
    have q4 := q1.trans q2
    simpa using q4.symm
  have e3 : Eqv n (wt A) x ((a ++ a'.reverse) ++ y ++ (b'.reverse ++ b)) := by
    have := e.trans (Eqv.app (Eqv.app .rfl e2) .rfl)
    have q3 : a ++ (a'.reverse ++ y ++ b'.reverse) ++ b = (a ++ a'.reverse) ++ y ++ (b'.reverse ++ b) := by simp
    rwa [q3] at this
  exact dbl_uniq (okc G) h'.fst.red.1 h.fst.red.1 h'.rj h.rj h'.ri h.ri _ (Nat.le_refl _) (la.app la'.rev) (lb'.rev.app lb) (sa.app sa'.rev) (sb'.rev.app sb) e3
theorem wrd_ne {u v : List Nat} (h : u ≠ v) : Wrd u ≠ Wrd v := fun e => by
  injection e with e
  exact h (wc_inj e)
theorem wrd_nm {u : List Nat} (G : Good n A) (hu : Lt n u) : Nm 0 (Wrd u) := .str (wc_ok (Lt.l26 G hu))
theorem bc_loop (G : Good n A) {I J w : List Nat} : ∀ (k : Nat) {u v : List Nat} {m : Mu}, Lt n u → u.length ≤ 50 → Lt n v → Pass n A I J v u → len n (wt A) u ≤ k → (∃ a b, Lt n a ∧ Lt n b ∧ Sub I a ∧ Sub J b ∧ Eqv n (wt A) u (a ++ w ++ b)) → ∀ f, k + 2 ≤ f →
    ∃ x m', while2 tc_bc body_bc f [some (mir n A), some (Wrd I), some (Wrd u), some (Wrd J), some (Wrd v)] m = .next [some (mir n A), some (Wrd I), some (Wrd x), some (Wrd J), some (Wrd x)] m' ∧ Dbl n A I J w x ∧ x.length ≤ 50 ∧ Ex m m' := by
  have stop : ∀ {u v : List Nat} {m : Mu}, Lt n u → u.length ≤ 50 → Pass n A I J v u → u = v → (∃ a b, Lt n a ∧ Lt n b ∧ Sub I a ∧ Sub J b ∧ Eqv n (wt A) u (a ++ w ++ b)) → ∀ f, 1 ≤ f →
    ∃ x m', while2 tc_bc body_bc f [some (mir n A), some (Wrd I), some (Wrd u), some (Wrd J), some (Wrd v)] m = .next [some (mir n A), some (Wrd I), some (Wrd x), some (Wrd J), some (Wrd x)] m' ∧ Dbl n A I J w x ∧ x.length ≤ 50 ∧ Ex m m' := by
    intro u v m hu hul hp hv hex f hf
    subst hv
    obtain ⟨b1, b2, l1, l2, s1, s2, fu, hlen, hr⟩ := hp.ex
    have hb1 : b1 = [] := List.eq_nil_of_length_eq_zero (by omega)
    have hb2 : b2 = [] := List.eq_nil_of_length_eq_zero (by omega)
    obtain ⟨r1, r2⟩ := hr hb1 hb2
    obtain ⟨f, rfl⟩ : ∃ g, f = g + 1 := ⟨f - 1, by omega⟩
    refine ⟨u, m, ?_, ⟨hex, r2, r1, fu.self⟩, hul, .refl⟩
    have q := (wrd_nm G hu).eqB_t (m := m) (wrd_nm G hu) (by decide) (by decide) rfl
    rw [while2_succ]
    simp -implicitDefEqProofs [tc_bc, q]
  intro k
  induction k with
  | zero =>
    intro u v m hu hul hv hp hk hex f hf
    have hfu : Fst n A u u := by obtain ⟨b1, b2, _, _, _, _, fu, _⟩ := hp.ex; exact fu.self
    have hu0 : u = [] := List.eq_nil_of_length_eq_zero (by rw [← hfu.red.2]; omega)
    by_cases huv : u = v
    · exact stop hu hul hp huv hex f (by omega)
    · obtain ⟨f, rfl⟩ : ∃ g, f = g + 1 := ⟨f - 1, by omega⟩
      obtain ⟨u', m1, e1, p1, lu', hul', x1⟩ := bc_pass (m := m) (I := I) (J := J) G hu hul (some (Wrd v))
      obtain ⟨b1, b2, l1, l2, s1, s2, fu', hlen, _⟩ := p1.ex
      have hu'0 : u' = [] := List.eq_nil_of_length_eq_zero (by rw [← fu'.red.2]; omega)
      obtain ⟨x, m2, e2, dx, hx, x2⟩ := stop (m := m1) lu' hul' p1 (hu'0.trans hu0.symm) (by
        obtain ⟨a, b, la, lb, sa, sb, ea⟩ := hex
        rw [hu'0, ← hu0]
        exact ⟨a, b, la, lb, sa, sb, ea⟩) f (by omega)
      refine ⟨x, m2, ?_, dx, hx, x1.trans x2⟩
      have q := (wrd_nm G hv).eqB_f (m := m) (wrd_nm G hu) (by decide) (by decide) (wrd_ne fun e => huv e.symm)
      rw [while2_succ]
      have ht : tc_bc [some (mir n A), some (Wrd I), some (Wrd u), some (Wrd J), some (Wrd v)] m = .ok true m := by
        simp -implicitDefEqProofs [tc_bc, q]
      rw [ht]
      simp -implicitDefEqProofs only [Rs.thn_ok, if_pos, e1]
      exact e2
  | succ k ih =>
    intro u v m hu hul hv hp hk hex f hf
    have hfu : Fst n A u u := by obtain ⟨b1, b2, _, _, _, _, fu, _⟩ := hp.ex; exact fu.self
    by_cases huv : u = v
    · exact stop hu hul hp huv hex f (by omega)
    · obtain ⟨f, rfl⟩ : ∃ g, f = g + 1 := ⟨f - 1, by omega⟩
      obtain ⟨u', m1, e1, p1, lu', hul', x1⟩ := bc_pass (m := m) (I := I) (J := J) G hu hul (some (Wrd v))
      obtain ⟨b1, b2, l1, l2, s1, s2, fu', hlen, hrest⟩ := p1.ex
      have hex' : ∃ a b, Lt n a ∧ Lt n b ∧ Sub I a ∧ Sub J b ∧ Eqv n (wt A) u' (a ++ w ++ b) := by
        obtain ⟨a, b, la, lb, sa, sb, ea⟩ := hex
        refine ⟨b1.reverse ++ a, b ++ b2, l1.rev.app la, lb.app l2, s1.rev.app sa, sb.app s2, ?_⟩
        have := fu'.eqv.symm.trans (Eqv.app (Eqv.app .rfl ea) .rfl)
        have q3 : b1.reverse ++ (a ++ w ++ b) ++ b2 = (b1.reverse ++ a) ++ w ++ (b ++ b2) := by simp
        rwa [q3] at this
      have q := (wrd_nm G hv).eqB_f (m := m) (wrd_nm G hu) (by decide) (by decide) (wrd_ne fun e => huv e.symm)
      have ht : tc_bc [some (mir n A), some (Wrd I), some (Wrd u), some (Wrd J), some (Wrd v)] m = .ok true m := by
        simp -implicitDefEqProofs [tc_bc, q]
      have fin : (∃ x m', while2 tc_bc body_bc f [some (mir n A), some (Wrd I), some (Wrd u'), some (Wrd J), some (Wrd u)] m1 = .next [some (mir n A), some (Wrd I), some (Wrd x), some (Wrd J), some (Wrd x)] m' ∧ Dbl n A I J w x ∧ x.length ≤ 50 ∧ Ex m1 m') := by
        by_cases hz : b1.length + b2.length = 0
        · have z1 : b1 = [] := List.eq_nil_of_length_eq_zero (by omega)
          have z2 : b2 = [] := List.eq_nil_of_length_eq_zero (by omega)
          subst z1 z2
          have heq : u' = u := fu'.uniq hfu (by simpa using Eqv.rfl)
          exact stop lu' hul' p1 heq hex' f (by omega)
        · exact ih lu' hul' hu p1 (by omega) hex' f (by omega)
      obtain ⟨x, m2, e2, dx, hx, x2⟩ := fin
      refine ⟨x, m2, ?_, dx, hx, x1.trans x2⟩
      rw [while2_succ, ht]
      simp -implicitDefEqProofs only [Rs.thn_ok, if_pos, e1]
      exact e2
theorem s_both_cut (G : Good n A) {I J w : List Nat} (hw : Lt n w) (hl : w.length ≤ 50) : ∃ x m', F_both_cut [mir n A, Wrd I, Wrd w, Wrd J] m = .ok (Wrd x) m' ∧ Dbl n A I J w x ∧ Ex m m' := by
  obtain ⟨N, hN⟩ : ∃ N : Nat, N = fuel_both_cut := ⟨_, rfl⟩
  have hN2 : 500 < N := by rw [hN]; decide +kernel
  obtain ⟨K, rfl⟩ : ∃ K, N = K + 1 := ⟨N - 1, by omega⟩
  obtain ⟨u, m1, e1, p1, lu, hul, x1⟩ := bc_pass (m := m) (I := I) (J := J) G hw hl (some .non)
  obtain ⟨b1, b2, l1, l2, s1, s2, fu, hlen, _⟩ := p1.ex
  have hlw := len_le_length (c := wt A) hw
  obtain ⟨x, m2, e2, dx, hx, x2⟩ := bc_loop (m := m1) (w := w) G 50 lu hul hw p1 (by omega) ⟨b1.reverse, b2, l1.rev, l2, s1.rev, s2, fu.eqv.symm⟩ K (by omega)
  obtain ⟨y, m3, e3, fy, x3⟩ := s_first_of (m := m2) G dx.fst.red.1 (by omega)
  have hy : y = x := fy.uniq dx.fst .rfl
  subst hy
  refine ⟨y, m3, ?_, dx, (x1.trans x2).trans x3⟩
  have q : eqB m .non (Wrd w) = some false := (Nm.non (c := 0)).eqB_f (wrd_nm G hw) (by decide) (by decide) (by simp)
  have ht : tc_bc [some (mir n A), some (Wrd I), some (Wrd w), some (Wrd J), some .non] m = .ok true m := by
    simp -implicitDefEqProofs [tc_bc, q]
  have ew : while2 tc_bc body_bc fuel_both_cut [some (mir n A), some (Wrd I), some (Wrd w), some (Wrd J), some .non] m = .next [some (mir n A), some (Wrd I), some (Wrd y), some (Wrd J), some (Wrd y)] m2 := by
    rw [← hN, while2_succ, ht]
    simp -implicitDefEqProofs only [Rs.thn_ok, if_pos, e1]
    exact e2
  unfold tc_bc body_bc at ew
  simp -implicitDefEqProofs [F_both_cut_eq, tb_both_cut_eq, ew, e3]
theorem s_inner (G : Good n A) {I J w : List Nat} (hw : Lt n w) (hl : w.length ≤ 50) (hI : Lt n I) (hIp : I.Pairwise (· < ·)) (hIl : I.length ≤ 100) (hJ : Lt n J) (hJp : J.Pairwise (· < ·)) (hJl : J.length ≤ 100) : ∃ x m', F_inner [mir n A, Wrd I, Wrd w, Wrd J] m = .ok (Wrd x) m' ∧ Dbl n A I J w x ∧ Ex m m' := by
  obtain ⟨x, m1, e1, dx, x1⟩ := s_both_cut (m := m) (I := I) (J := J) G hw hl
  refine ⟨x, m1, ?_, dx, x1⟩
  simp -implicitDefEqProofs [F_inner_eq, tb_inner_eq, s_check_mirrors, s_check_asked G hw (by omega), s_check_lot G hJ hJp hJl, s_check_lot G hI hIp hIl, e1]
end
end K21
set_option linter.all false
set_option maxRecDepth 100000
set_option maxHeartbeats 1000000
set_option Elab.async false
namespace K21
open Dn Br Cox
section
variable {n : Nat} {A : List Ang} {m : Mu}
def supp (n : Nat) (x : List Nat) : List Nat := (List.range n).filter fun i => decide (i ∈ x)
theorem supp_lt (x : List Nat) : Lt n (supp n x) := fun i hi => List.mem_range.mp (List.mem_filter.mp hi).1
theorem mem_supp {x : List Nat} {i : Nat} (hx : Lt n x) : i ∈ supp n x ↔ i ∈ x := by
  unfold supp
  rw [List.mem_filter, List.mem_range]
  simp only [decide_eq_true_eq]
  exact ⟨fun h => h.2, fun h => ⟨hx i h, h⟩⟩
theorem supp_pw (x : List Nat) : (supp n x).Pairwise (· < ·) := List.Pairwise.filter _ List.pairwise_lt_range
theorem supp_len (x : List Nat) : (supp n x).length ≤ n := by
  have := List.length_filter_le (fun i => decide (i ∈ x)) (List.range n)
  rwa [List.length_range] at this
theorem in_wrd (x : List Nat) (j : Nat) : inK1 m (Lt1 j) (.str (wc x)) = some (decide (j ∈ x)) := by
  show inK1 m (.str [97 + j]) _ = _
  rw [inK1_sc]
  congr 1
  rw [decide_eq_decide]
  exact mem_wc
theorem s_support_of (G : Good n A) {w : List Nat} (hw : Lt n w) (hl : w.length ≤ 100) : ∃ x m', F_support_of [mir n A, Wrd w] m = .ok (Wrd (supp n x)) m' ∧ Fst n A w x ∧ Ex m m' := by
  have h6 := G.n6
  obtain ⟨x, m1, e1, fx, x1⟩ := s_first_of (m := m) G hw hl
  refine ⟨x, m1, ?_, fx, x1⟩
  obtain ⟨m', e, rfl⟩ := comp_flt (g := name2 3) (tt := bool2 (op2 inD (var2 3) (var2 2))) (te := var2 3) (δ := [some (mir n A), some (Wrd w), some (Wrd x), none]) (I := fun m' => m' = m1) (p := fun (k : Nat) => Lt1 k) (q := fun (k : Nat) => Lt1 k) (b := fun i => decide (i ∈ x)) (List.range n) (m := m1) rfl (fun k hk m' hm => by
    subst hm
    refine ⟨_, m', name2_ap _ _ _ _, ?_, rfl, fun _ => ⟨m', ?_, rfl⟩⟩
    · have := in_wrd (m := m') x k
      simp -implicitDefEqProofs [this]
    · simp -implicitDefEqProofs)
  have e : comp2 (name2 3) (bool2 (op2 inD (var2 3) (var2 2))) (var2 3) [some (mir n A), some (Wrd w), some (Wrd x), none] ((List.range n).map fun (k : Nat) => Lt1 k) m' = .ok ((supp n x).map fun (k : Nat) => Lt1 k) m' := e
  have hss := strsOf_fn lc (supp n x)
  have u2 : ofS "" = [] := by decide +kernel
  have hj := joinC_nil (supp n x)
  have hsl := supp_len (n := n) x
  have hs1 : ((supp n x).map ((fun x => List.length x) ∘ lc)).sum = (supp n x).length := sum_ones (supp n x)
  simp -implicitDefEqProofs [F_support_of_eq, tb_support_of_eq, e1, s_letters G, wc_items, e, SZ_val, wc_len, show n ≤ 16777216 by omega, hss, u2, hj, show (supp n x).length ≤ 16777216 by omega, hs1, lc_len]
theorem s_support (G : Good n A) {w : List Nat} (hw : Lt n w) (hl : w.length ≤ 60) : ∃ x m', F_support [mir n A, Wrd w] m = .ok (Wrd (supp n x)) m' ∧ Fst n A w x ∧ Ex m m' := by
  obtain ⟨x, m1, e1, fx, x1⟩ := s_support_of (m := m) G hw (by omega)
  refine ⟨x, m1, ?_, fx, x1⟩
  simp -implicitDefEqProofs [F_support_eq, tb_support_eq, s_check_asked G hw hl, e1]
theorem s_is_part (G : Good n A) {w J : List Nat} (hw : Lt n w) (hl : w.length ≤ 60) (hJ : Lt n J) (hp : J.Pairwise (· < ·)) (hJl : J.length ≤ 100) : ∃ x m', F_is_part [mir n A, Wrd w, Wrd J] m = .ok (.bl ((supp n x).all fun i => decide (i ∈ J))) m' ∧ Fst n A w x ∧ Ex m m' := by
  have h6 := G.n6
  obtain ⟨x, m1, e1, fx, x1⟩ := s_support_of (m := m) G hw (by omega)
  refine ⟨x, m1, ?_, fx, x1⟩
  have h2 := comp_on (g := name2 3) (te := op2 inD (var2 3) (var2 2)) (δ := [some (mir n A), some (Wrd w), some (Wrd J), none]) (I := fun m' => m' = m1) (p := fun (k : Nat) => Lt1 k) (q := fun (k : Nat) => D.bl (decide (k ∈ J))) (supp n x) (m := m1) rfl (fun k hk m' hm => by
    subst hm
    refine ⟨_, m', name2_ap _ _ _ _, ?_, rfl⟩
    have := in_wrd (m := m') J k
    simp -implicitDefEqProofs [this])
  obtain ⟨m', h2, rfl⟩ := h2
  have hb := blsOf_fn (fun i : Nat => decide (i ∈ J)) (supp n x)
  have hsl := supp_len (n := n) x
  have ha : ∀ l : List Nat, (l.map fun i => decide (i ∈ J)).all id = l.all fun i => decide (i ∈ J) := fun l => by rw [List.all_map]; rfl
  simp -implicitDefEqProofs [F_is_part_eq, tb_is_part_eq, s_check_asked G hw hl, s_check_lot G hJ hp hJl, e1, wc_items, h2, hb, SZ_val, wc_len, show (supp n x).length ≤ 16777216 by omega]
  all_goals first | rfl | exact (ha _) | skip
end
end K21
set_option linter.all false
set_option maxRecDepth 100000
set_option maxHeartbeats 1000000
set_option Elab.async false
namespace K21
open Dn Br Cox
section
variable {n : Nat} {A : List Ang} {m : Mu}
theorem comp_sub {α : Type} {p q : α → D} {g : G2f} {tt : Dl → Mu → Rs Bool} {te : Dl → Mu → Rs D} {δ : Dl} {I : Mu → Prop} : ∀ (l : List α) {m : Mu}, I m →
    (∀ a ∈ l, ∀ m, I m → ∃ δ' m1 b, g (p a) δ m = .ok δ' m ∧ tt δ' m = .ok b m1 ∧ I m1 ∧ (b = true → ∃ m2, te δ' m1 = .ok (q a) m2 ∧ I m2)) → ∃ (m' : Mu) (l' : List α), comp2 g tt te δ (l.map p) m = .ok (l'.map q) m' ∧ I m' ∧ l'.Sublist l
  | [], m, hI, _ => ⟨m, [], rfl, hI, List.Sublist.slnil⟩
  | k :: l, m, hI, h => by
    obtain ⟨δ', m1, b, h1, h2, i1, h4⟩ := h k List.mem_cons_self m hI
    cases hb : b with
    | false =>
      obtain ⟨m2, l', h3, i2, s2⟩ := comp_sub l i1 fun x hx => h x (List.mem_cons_of_mem _ hx)
      exact ⟨m2, l', by simp only [List.map_cons, comp2, h1, Rs.nx_ok, h2, hb, Bool.false_eq_true, if_false, h3], i2, s2.cons _⟩
    | true =>
      obtain ⟨m2, h5, i2⟩ := h4 hb
      obtain ⟨m3, l', h3, i3, s3⟩ := comp_sub l i2 fun x hx => h x (List.mem_cons_of_mem _ hx)
      exact ⟨m3, k :: l', by simp only [List.map_cons, comp2, h1, Rs.nx_ok, h2, hb, if_pos, h5, h3], i3, s3.cons₂ _⟩
theorem s_law_lot {r : Nat} (h : Tub m r) (G : Good n A) : ∃ J m', F_law_lot [.ref r, plan n A] m = .ok (Wrd J) m' ∧ Lt n J ∧ J.Pairwise (· < ·) ∧ J.length ≤ 6 ∧ TS r m m' := by
  have h6 := G.n6
  obtain ⟨m', J, e, t, sJ⟩ := comp_sub (g := name2 2) (tt := bool2 (op2 eqD (on2 F_law_sip (cons2 (var2 0) (cons2 (con2 (.int 2)) nil2))) (con2 (.int 0)))) (te := var2 2) (δ := [some (.ref r), some (plan n A), none]) (I := fun m' => TS r m m') (p := fun (k : Nat) => Lt1 k) (q := fun (k : Nat) => Lt1 k) (List.range n) (m := m) (.refl h) (fun k hk m' t => by
    obtain ⟨i, m1, e, a, b, t1⟩ := s_sip (top := 2) t.tub (by decide) (by decide +kernel)
    refine ⟨_, m1, decide (i = 0), name2_ap _ _ _ _, ?_, t.trans t1, fun _ => ⟨m1, ?_, t.trans t1⟩⟩
    · simp -implicitDefEqProofs [e]
      by_cases hi : i = 0 <;> simp [hi]
    · simp -implicitDefEqProofs)
  have hJl : J.length ≤ n := by
    have := sJ.length_le
    rwa [List.length_range] at this
  refine ⟨J, m', ?_, fun i hi => List.mem_range.mp (sJ.subset hi), List.pairwise_lt_range.sublist sJ, by omega, t⟩
  have pl := plan_eq n A
  have hc := cutN n h6
  have hss := strsOf_fn lc J
  have u2 : ofS "" = [] := by decide +kernel
  have hj := joinC_nil J
  have hs1 : (J.map ((fun x => List.length x) ∘ lc)).sum = J.length := sum_ones J
  rw [pl] at e ⊢
  simp -implicitDefEqProofs [F_law_lot_eq, tb_law_lot_eq, hc, letters_len, wc_items, e, SZ_val, hss, u2, hj, hs1, show J.length ≤ 16777216 by omega, lc_len]
/-! the law's own way between two lots -/
def body_ls : Dl → Mu → Ro := (seq2 (asg2 (op2 addD (lc2 (it2 (var2 2)) (name2 7) yes2 (op2 addD (var2 7) (var2 1)) [7]) (lc2 (it2 (var2 3)) (name2 7) yes2 (op2 addD (var2 1) (var2 7)) [7])) (name2 5))
      (seq2 (asg2 (lc2 (it2 (var2 5)) (name2 8) yes2 (op2 idxD (on2 F_law_class (cons2 (var2 0) (cons2 (var2 8) nil2))) (con2 (.int 0))) [8]) (name2 6))
      (seq2 (asg2 (lc2 (it2 (var2 6)) (name2 8) (bool2 (op2 ltD (on2 lenD (cons2 (var2 8) nil2)) (on2 lenD (cons2 (var2 1) nil2)))) (var2 8) [8]) (name2 6))
      (seq2 (if2 (bool2 (op2 eqD (var2 6) (lst2 nil2)))
      (ret2 (var2 1))
      nop2)
      (asg2 (op2 idxD (var2 6) (con2 (.int 0))) (name2 1))))))
def someW (I J u : List Nat) : List (List Nat) := (I.map fun i => i :: u) ++ J.map fun j => u ++ [j]
theorem cls_head (G : Good n A) {w : List Nat} (hw : Lt n w) (hl : w.length ≤ 60) (hb : ∀ k, k ≤ w.length → n ^ k ≤ 999999) : ∃ (x : List Nat) (S : List (List Nat)) (m' : Mu), F_law_class [plan n A, Wrd w] m = .ok (.lst ((x :: S).map fun u => Wrd u)) m' ∧ Fst n A w x ∧ Cls n A w (x :: S) ∧ Ex m m' := by
  obtain ⟨S, m1, e1, cS, x1⟩ := s_law_class (m := m) G hw hl hb
  obtain ⟨x, S', rfl, fx⟩ := cS.fst hw
  exact ⟨x, S', m1, e1, fx, cS, x1⟩
theorem ls_step (G : Good n A) (hn4 : n ≤ 4) {I J u : List Nat} (hI : Lt n I) (hIl : I.length ≤ 6) (hJ : Lt n J) (hJl : J.length ≤ 6) (fu : Fst n A u u) (hul : u.length ≤ 7) (pw : ∀ k, k ≤ 8 → n ^ k ≤ 999999) (a4 a5 a6 a7 a8 : Option D) :
    (∃ u' b5 b6 b7 b8 m', body_ls [some (plan n A), some (Wrd u), some (Wrd I), some (Wrd J), a4, a5, a6, a7, a8] m = .next [some (plan n A), some (Wrd u'), some (Wrd I), some (Wrd J), a4, b5, b6, b7, b8] m' ∧ Fst n A u' u' ∧ u'.length < u.length ∧ (∃ a b, Lt n a ∧ Lt n b ∧ Sub I a ∧ Sub J b ∧ Eqv n (wt A) u' (a ++ u ++ b)) ∧ Ex m m') ∨
    (∃ m', body_ls [some (plan n A), some (Wrd u), some (Wrd I), some (Wrd J), a4, a5, a6, a7, a8] m = .ret (Wrd u) m' ∧ Rest n (wt A) J u ∧ Rest n (wt A) I u.reverse ∧ Ex m m') := by
  have h6 := G.n6
  have hu := fu.red.1
  have sm : ∀ x ∈ someW I J u, Lt n x ∧ x.length = u.length + 1 ∧ ∃ a b, Lt n a ∧ Lt n b ∧ Sub I a ∧ Sub J b ∧ x = a ++ u ++ b := fun x hx => by
    rcases List.mem_append.mp hx with h | h
    · obtain ⟨i, hi, rfl⟩ := List.mem_map.mp h
      refine ⟨fun k hk => ?_, by simp, [i], [], .one (hI i hi), .nil, fun k hk => ?_, .nil, by simp⟩
      · rcases List.mem_cons.mp hk with rfl | hk
        · exact hI k hi
        · exact hu k hk
      · rw [List.mem_singleton.mp hk]; exact hi
    · obtain ⟨j, hj, rfl⟩ := List.mem_map.mp h
      refine ⟨hu.app (.one (hJ j hj)), by simp, [], [j], .nil, .one (hJ j hj), .nil, fun k hk => ?_, by simp⟩
      rw [List.mem_singleton.mp hk]; exact hj
  have e1 := comp_on (g := name2 7) (te := op2 addD (var2 7) (var2 1)) (δ := [some (plan n A), some (Wrd u), some (Wrd I), some (Wrd J), a4, a5, a6, none, a8]) (I := fun m' => m' = m) (p := fun (k : Nat) => Lt1 k) (q := fun (k : Nat) => Wrd (k :: u)) I (m := m) rfl (fun k hk m' hm => by
    subst hm
    refine ⟨_, m', name2_ap _ _ _ _, ?_, rfl⟩
    have hw : lc k ++ wc u = wc (k :: u) := rfl
    simp -implicitDefEqProofs [hw, SZ_val, wc_len, lc_len, show 1 + u.length ≤ 16777216 by omega])
  obtain ⟨m1, e1, rfl⟩ := e1
  have e2 := comp_on (g := name2 7) (te := op2 addD (var2 1) (var2 7)) (δ := [some (plan n A), some (Wrd u), some (Wrd I), some (Wrd J), a4, a5, a6, none, a8]) (I := fun m' => m' = m1) (p := fun (k : Nat) => Lt1 k) (q := fun (k : Nat) => Wrd (u ++ [k])) J (m := m1) rfl (fun k hk m' hm => by
    subst hm
    refine ⟨_, m', name2_ap _ _ _ _, ?_, rfl⟩
    have hw : wc u ++ lc k = wc (u ++ [k]) := wc_app u [k]
    simp -implicitDefEqProofs [hw, SZ_val, wc_len, lc_len, show u.length + 1 ≤ 16777216 by omega])
  obtain ⟨m2, e2, rfl⟩ := e2
  have es : (I.map fun (k : Nat) => Wrd (k :: u)) ++ (J.map fun (k : Nat) => Wrd (u ++ [k])) = (someW I J u).map fun x => Wrd x := by
    unfold someW
    rw [List.map_append, List.map_map, List.map_map]
    rfl
  have hsl : (someW I J u).length = I.length + J.length := by unfold someW; simp
  obtain ⟨m3, bs, e3, x3, hbl, hbs⟩ := comp_rel (g := name2 8) (te := op2 idxD (on2 F_law_class (cons2 (var2 0) (cons2 (var2 8) nil2))) (con2 (.int 0))) (δ := [some (plan n A), some (Wrd u), some (Wrd I), some (Wrd J), a4, some (.lst ((someW I J u).map fun x => Wrd x)), a6, a7, none]) (I := fun m' => Ex m2 m') (ok := fun a b => Fst n A a b) (p := fun x => Wrd x) (q := fun x => Wrd x) (someW I J u) (m := m2) .refl (fun x hx m' hm => by
    obtain ⟨hxl, hxn, _⟩ := sm x hx
    obtain ⟨y, S, m4, e4, fy, _, x4⟩ := cls_head (m := m') G hxl (by omega) (fun k hk => pw k (by omega))
    refine ⟨_, m4, y, name2_ap _ _ _ _, ?_, hm.trans x4, fy⟩
    have pl := plan_eq n A
    rw [pl] at e4 ⊢
    simp -implicitDefEqProofs [e4])
  obtain ⟨m5, e5, rfl⟩ := comp_flt (g := name2 8) (tt := bool2 (op2 ltD (on2 lenD (cons2 (var2 8) nil2)) (on2 lenD (cons2 (var2 1) nil2)))) (te := var2 8) (δ := [some (plan n A), some (Wrd u), some (Wrd I), some (Wrd J), a4, some (.lst ((someW I J u).map fun x => Wrd x)), some (.lst (bs.map fun x => Wrd x)), a7, none]) (I := fun m' => m' = m3) (p := fun x => Wrd x) (q := fun x => Wrd x) (b := fun x => decide (x.length < u.length)) bs (m := m3) rfl (fun x hx m' hm => by
    subst hm
    obtain ⟨i, hi, e⟩ := List.getElem_of_mem hx
    have h1 : bs[i]? = some x := by rw [List.getElem?_eq_getElem hi, e]
    have h2 : (someW I J u)[i]? = some (someW I J u)[i] := List.getElem?_eq_getElem (by omega)
    have hf := hbs i _ x h2 h1
    have hxl := hf.len (sm _ (List.mem_of_getElem? h2)).1
    have hxl2 := len_le_length (c := wt A) (sm _ (List.mem_of_getElem? h2)).1
    have hxl3 := (sm _ (List.mem_of_getElem? h2)).2.1
    refine ⟨_, m', name2_ap _ _ _ _, ?_, rfl, fun _ => ⟨m', ?_, rfl⟩⟩
    · simp -implicitDefEqProofs [SZ_val, wc_len, show x.length ≤ 16777216 by omega, show u.length ≤ 16777216 by omega]
    · simp -implicitDefEqProofs)
  have hfl := List.length_filter_le (fun x : List Nat => decide (x.length < u.length)) bs
  have nmW : ∀ l : List (List Nat), (∀ x ∈ l, Lt n x) → Nm 1 (.lst (l.map fun x => Wrd x)) := fun l hl => .lst fun d hd => by
    obtain ⟨x, hx, rfl⟩ := List.mem_map.mp hd
    exact wrd_nm G (hl x hx)
  have hbf : ∀ x ∈ bs, ∃ s ∈ someW I J u, Fst n A s x := fun x hx => by
    obtain ⟨i, hi, e⟩ := List.getElem_of_mem hx
    have h1 : bs[i]? = some x := by rw [List.getElem?_eq_getElem hi, e]
    have h2 : (someW I J u)[i]? = some (someW I J u)[i] := List.getElem?_eq_getElem (by omega)
    exact ⟨_, List.mem_of_getElem? h2, hbs i _ x h2 h1⟩
  have hfb : ∀ s ∈ someW I J u, ∃ x ∈ bs, Fst n A s x := fun s hs => by
    obtain ⟨i, hi, e⟩ := List.getElem_of_mem hs
    have h1 : (someW I J u)[i]? = some s := by rw [List.getElem?_eq_getElem hi, e]
    have h2 : bs[i]? = some bs[i] := List.getElem?_eq_getElem (by omega)
    exact ⟨_, List.mem_of_getElem? h2, hbs i _ _ h1 h2⟩
  have z1 : I.length ≤ 16777216 := by omega
  have z2 : J.length ≤ 16777216 := by omega
  have z3 : I.length + J.length ≤ 16777216 := by omega
  have z4 : bs.length ≤ 16777216 := by omega
  have z5 : (bs.filter fun x => decide (x.length < u.length)).length ≤ 16777216 := by omega
  have pl := plan_eq n A
  cases hf : bs.filter fun x => decide (x.length < u.length) with
  | nil =>
    right
    rw [hf] at e5 z5
    refine ⟨m5, ?_, fun s hs hn hlo => ?_, fun s hs hn hlo => ?_, x3⟩
    · have q1 : eqB m5 (.lst []) (.lst []) = some true := eqB_nil
      rw [pl] at e1 e2 e3 e5 ⊢
      simp -implicitDefEqProofs only [List.map_nil] at e5
      simp -implicitDefEqProofs [body_ls, wc_items, e1, e2, SZ_val, wc_len, z1, z2, z3, es, e3, z4, e5, q1, hsl]
    · obtain ⟨x, hx, fx⟩ := hfb (u ++ [s]) (List.mem_append.mpr (.inr (List.mem_map_of_mem hs)))
      have h1 := lo_len (okc G) hu hn hlo
      have h2 := fx.len (hu.app (.one hn))
      have h3 := fu.red.2
      have : x ∈ bs.filter fun x => decide (x.length < u.length) := List.mem_filter.mpr ⟨hx, by simp only [decide_eq_true_eq]; omega⟩
      rw [hf] at this
      cases this
    · obtain ⟨x, hx, fx⟩ := hfb (s :: u) (List.mem_append.mpr (.inl (List.mem_map_of_mem hs)))
      have h1 := lo_len (okc G) hu.rev hn hlo
      have hsu : Lt n (s :: u) := by
        have := (Lt.one hn).app hu
        simpa using this
      have h2 := fx.len hsu
      have h3 := fu.red.2
      have h4 := len_rev (A := A) hu
      have h5 := len_rev (A := A) hsu
      rw [List.reverse_cons] at h5
      have : x ∈ bs.filter fun x => decide (x.length < u.length) := List.mem_filter.mpr ⟨hx, by simp only [decide_eq_true_eq]; omega⟩
      rw [hf] at this
      cases this
  | cons y r =>
    left
    have hy : y ∈ bs.filter fun x => decide (x.length < u.length) := by rw [hf]; exact List.mem_cons_self
    obtain ⟨hyb, hyl⟩ := List.mem_filter.mp hy
    simp only [decide_eq_true_eq] at hyl
    obtain ⟨s, hs, fy⟩ := hbf y hyb
    obtain ⟨_, _, a, b, la, lb, sa, sb, es'⟩ := sm s hs
    have hall : ∀ x ∈ y :: r, Lt n x := fun x hx => by
      have : x ∈ bs.filter fun x => decide (x.length < u.length) := by rw [hf]; exact hx
      obtain ⟨s, _, fx⟩ := hbf x (List.mem_filter.mp this).1
      exact fx.red.1
    rw [hf] at e5 z5
    refine ⟨y, some (.lst ((someW I J u).map fun x => Wrd x)), some (.lst ((y :: r).map fun x => Wrd x)), a7, a8, m5, ?_, fy.self, hyl, ⟨a, b, la, lb, sa, sb, by rw [← es']; exact fy.eqv.symm⟩, x3⟩
    have q1 : eqB m5 (.lst ((y :: r).map fun x => Wrd x)) (.lst []) = some false := (nmW _ hall).eqB_f (nmW [] (by simp)) (by decide) (by decide) (by simp)
    rw [pl] at e1 e2 e3 e5 ⊢
    simp -implicitDefEqProofs only [List.map_cons] at e5 q1 ⊢
    simp only [List.length_cons] at z5
    simp -implicitDefEqProofs [body_ls, wc_items, e1, e2, SZ_val, wc_len, z1, z2, z3, es, e3, z4, e5, q1, z5, hsl]
theorem s_law_shortest_of (G : Good n A) (hn4 : n ≤ 4) {I J w : List Nat} (hw : Lt n w) (hwl : w.length ≤ 7) (hI : Lt n I) (hIl : I.length ≤ 6) (hJ : Lt n J) (hJl : J.length ≤ 6) (pw : ∀ k, k ≤ 8 → n ^ k ≤ 999999) : ∃ x m', F_law_shortest_of [plan n A, Wrd w, Wrd I, Wrd J] m = .ok (Wrd x) m' ∧ Dbl n A I J w x ∧ x.length ≤ 7 ∧ Ex m m' := by
  obtain ⟨u0, S, m0, e0, f0, _, x0⟩ := cls_head (m := m) G hw (by omega) (fun k hk => pw k (by omega))
  have hu0 : u0.length ≤ 7 := by
    have h1 := f0.len hw
    have h2 := len_le_length (c := wt A) hw
    omega
  have L := for_ret (g := name2 4) (tb := body_ls) (p := fun (k : Nat) => D.int (k : Int)) (l := List.range 20)
    (I := fun i δ m' => ∃ (u : List Nat) (x4 x5 x6 x7 x8 : Option D), δ = [some (plan n A), some (Wrd u), some (Wrd I), some (Wrd J), x4, x5, x6, x7, x8] ∧ Fst n A u u ∧ u.length + i ≤ 7 ∧ (∃ a b, Lt n a ∧ Lt n b ∧ Sub I a ∧ Sub J b ∧ Eqv n (wt A) u (a ++ w ++ b)) ∧ Ex m m')
    (R := fun v m' => ∃ x : List Nat, v = Wrd x ∧ Dbl n A I J w x ∧ x.length ≤ 7 ∧ Ex m m') (S := fun _ _ => False)
    (fun i k δ m' hk hI' => by
      obtain ⟨u, x4, x5, x6, x7, x8, rfl, fu, hul, ⟨a, b, la, lb, sa, sb, ea⟩, hx⟩ := hI'
      rcases ls_step (m := m') G hn4 hI hIl hJ hJl fu (by omega) pw (some (.int (k : Nat))) x5 x6 x7 x8 with ⟨u', b5, b6, b7, b8, m2, e2, fu', hlt, ⟨a', b', la', lb', sa', sb', ea'⟩, x2⟩ | ⟨m2, e2, r1, r2, x2⟩
      · refine .inl ⟨_, m2, .inl e2, u', some (.int (k : Nat)), b5, b6, b7, b8, rfl, fu', by omega, ⟨a' ++ a, b ++ b', la'.app la, lb.app lb', sa'.app sa, sb.app sb', ?_⟩, hx.trans x2⟩
        have := ea'.trans (Eqv.app (Eqv.app .rfl ea) .rfl)
        have q3 : a' ++ (a ++ w ++ b) ++ b' = (a' ++ a) ++ w ++ (b ++ b') := by simp
        rwa [q3] at this
      · exact .inr (.inr ⟨Wrd u, m2, e2, u, rfl, ⟨⟨a, b, la, lb, sa, sb, ea⟩, r1, r2, fu⟩, by omega, hx.trans x2⟩))
    [some (plan n A), some (Wrd u0), some (Wrd I), some (Wrd J), none, none, none, none, none] m0 ⟨u0, none, none, none, none, none, rfl, f0.self, by omega, ⟨[], [], .nil, .nil, .nil, .nil, by simpa using f0.eqv.symm⟩, x0⟩
  rw [← intsFrom_nat] at L
  have hs : small62 20 = true := small62_of (by decide) (by decide)
  rcases L with ⟨δ', m', e, ⟨u, x4, x5, x6, x7, x8, rfl, fu, hul, _⟩ | h⟩ | ⟨v, m', e, x, rfl, dx, hxl, hx⟩
  · rw [List.length_range] at hul
    omega
  · cases h
  · refine ⟨x, m', ?_, dx, hxl, hx⟩
    have pl := plan_eq n A
    rw [pl] at e0 e ⊢
    unfold body_ls at e
    simp -implicitDefEqProofs [F_law_shortest_of_eq, tb_law_shortest_of_eq, e0, hs, e]
end
end K21
set_option linter.all false
set_option maxRecDepth 100000
set_option maxHeartbeats 1000000
set_option Elab.async false
namespace K21
open Dn Br Cox
section
variable {n : Nat} {A : List Ang} {m : Mu}
theorem pair_rep {d : D} (h : Sh 20 0 21 d) : reprD [.lst [d, d]] m = .ok (.str (reprC (.lst [d, d]))) m ∧ eqB m (.str (reprC (.lst [d, d]))) (.str (reprC (.lst [d, d]))) = some true := by
  have q : Sh 20 1 (3 + 2 * (21 + 2)) (.lst [d, d]) := .lst (ds := [d, d]) fun x hx => by
    simp at hx
    rw [hx]
    exact h
  exact ⟨q.repr rfl (by decide) (by decide) (by decide) (by rw [SZ_val]; decide), q.eqR⟩
theorem wc_sh {w : List Nat} (h : ∀ i ∈ w, i < 26) (hl : w.length ≤ 19) : Sh 20 0 21 (Wrd w) := .str (fun c hc => by
  obtain ⟨i, hi, rfl⟩ := List.mem_map.mp hc
  have := h i hi
  omega) (by rw [wc_len]; omega)
/-! letters of a word, each once -/
def dd : List Nat → List Nat → List Nat
  | [], acc => acc
  | k :: l, acc => dd l (if k ∈ acc then acc else acc ++ [k])
theorem dd_mem : ∀ (l acc : List Nat) (i : Nat), i ∈ dd l acc ↔ i ∈ acc ∨ i ∈ l
  | [], acc, i => by simp [dd]
  | k :: l, acc, i => by
    unfold dd
    rw [dd_mem l]
    by_cases h : k ∈ acc
    · rw [if_pos h, List.mem_cons]
      constructor
      · rintro (q | q)
        · exact .inl q
        · exact .inr (.inr q)
      · rintro (q | q | q)
        · exact .inl q
        · exact .inl (q ▸ h)
        · exact .inr q
    · rw [if_neg h, List.mem_append, List.mem_singleton, List.mem_cons, or_assoc]
theorem dd_nodup : ∀ (l acc : List Nat), acc.Nodup → (dd l acc).Nodup
  | [], acc, h => h
  | k :: l, acc, h => by
    unfold dd
    refine dd_nodup l _ ?_
    by_cases hk : k ∈ acc
    · rw [if_pos hk]; exact h
    · rw [if_neg hk, List.nodup_append]
      exact ⟨h, by simp, fun x hx y hy e => hk (by rw [List.mem_singleton] at hy; rw [← hy, ← e]; exact hx)⟩
abbrev kS (acc : List Nat) : List DKey := acc.map fun k => DKey.s (lc k)
abbrev vS (acc : List Nat) : List D := acc.map fun _ => D.bl true
theorem kS_nodup {acc : List Nat} (h : acc.Nodup) : (kS acc).Nodup := List.Pairwise.map _ (fun a b hab e => hab (by
  injection e with e
  simp [lc] at e
  exact e)) h
theorem dput_set : ∀ (acc : List Nat) (k : Nat), dput (kS acc) (vS acc) (.s (lc k)) (.bl true) = (kS (if k ∈ acc then acc else acc ++ [k]), vS (if k ∈ acc then acc else acc ++ [k]))
  | [], k => rfl
  | a :: acc, k => by
    show (if DKey.s (lc a) = DKey.s (lc k) then (kS (a :: acc), D.bl true :: vS acc) else (DKey.s (lc a) :: (dput (kS acc) (vS acc) (.s (lc k)) (.bl true)).1, D.bl true :: (dput (kS acc) (vS acc) (.s (lc k)) (.bl true)).2)) = _
    by_cases h : a = k
    · subst h
      simp
    · have hne : ¬ DKey.s (lc a) = DKey.s (lc k) := fun e => h (by
        injection e with e
        simp [lc] at e
        exact e)
      rw [if_neg hne, dput_set acc k]
      by_cases hk : k ∈ acc
      · simp [hk]
      · simp [hk, show ¬ k = a from fun e => h e.symm]
theorem merge_set : ∀ (l acc : List Nat), acc.Nodup → mergeD (l.map fun k => .tup [Lt1 k, .bl true]) (kS acc) (vS acc) = some (kS (dd l acc), vS (dd l acc))
  | [], acc, h => rfl
  | k :: l, acc, h => by
    have e : mergeD ((k :: l).map fun k => .tup [Lt1 k, .bl true]) (kS acc) (vS acc) = if (kS acc).Nodup then mergeD (l.map fun k => .tup [Lt1 k, .bl true]) (dput (kS acc) (vS acc) (.s (lc k)) (.bl true)).1 (dput (kS acc) (vS acc) (.s (lc k)) (.bl true)).2 else none := rfl
    rw [e, if_pos (kS_nodup h), dput_set]
    have h2 : (if k ∈ acc then acc else acc ++ [k]).Nodup := by
      by_cases hk : k ∈ acc
      · rw [if_pos hk]; exact h
      · rw [if_neg hk, List.nodup_append]
        exact ⟨h, by simp, fun x hx y hy e => hk (by rw [List.mem_singleton] at hy; rw [← hy, ← e]; exact hx)⟩
    exact merge_set l _ h2
theorem keysS_kS : ∀ acc : List Nat, keysS (kS acc) = some (acc.map lc)
  | [] => rfl
  | a :: acc => by
    show (keysS (kS acc)).map (lc a :: ·) = _
    rw [keysS_kS acc]
    rfl
theorem sort_dd {x : List Nat} (hx : Lt n x) : sortC ((dd x []).map lc) = (supp n x).map lc := by
  have hp : (dd x []).Perm (supp n x) := (List.perm_ext_iff_of_nodup (dd_nodup x [] (by simp)) ((supp_pw (n := n) x).imp fun h => Nat.ne_of_lt h)).mpr fun i => by
    rw [dd_mem, mem_supp hx]
    simp
  refine List.Perm.eq_of_pairwise (le := fun a b : Cs => a ≤ b) (fun a b _ _ h1 h2 => List.le_antisymm h1 h2) (sortC_pw _) ?_ ((List.mergeSort_perm _ _).trans (hp.map lc))
  rw [List.pairwise_map]
  refine (supp_pw (n := n) x).imp fun {a b} h => ?_
  show ([97 + a] : List Nat) ≤ [97 + b]
  exact List.cons_le_cons_iff.mpr (.inl (by omega))
theorem dd_len {x : List Nat} (hx : Lt n x) : (dd x []).length ≤ n := by
  have hp : (dd x []).Perm (supp n x) := (List.perm_ext_iff_of_nodup (dd_nodup x [] (by simp)) ((supp_pw (n := n) x).imp fun h => Nat.ne_of_lt h)).mpr fun i => by
    rw [dd_mem, mem_supp hx]
    simp
  rw [hp.length_eq]
  exact supp_len x
/-! what is taken off is told by the lot -/
theorem cut_uniq (G : Good n A) {J w b b' : List Nat} (hw : Lt n w) (h : CutB n A J w b) (h' : CutB n A J w b') : Eqv n (wt A) b b' := by
  have e : Eqv n (wt A) (w ++ b') ([] ++ (w ++ b) ++ (b.reverse ++ b')) := by
    have q1 : Eqv n (wt A) (w ++ (b ++ b.reverse) ++ b') (w ++ [] ++ b') := Eqv.app (Eqv.app .rfl (Eqv.revr b)) .rfl
    have q2 : w ++ (b ++ b.reverse) ++ b' = [] ++ (w ++ b) ++ (b.reverse ++ b') := by simp
    rw [q2, List.append_nil] at q1
    exact q1.symm
  have e2 := dbl_uniq (okc G) (I := []) (J := J) (x := w ++ b) (y := w ++ b') (hw.app h.lt) (hw.app h'.lt) h.rest h'.rest (fun s hs => by cases hs) (fun s hs => by cases hs) _ (Nat.le_refl _) .nil (h.lt.rev.app h'.lt) .nil (h.sub.rev.app h'.sub) e
  have e3 : Eqv n (wt A) (w.reverse ++ (w ++ b)) (w.reverse ++ (w ++ b')) := Eqv.app .rfl e2.symm
  have e4 : ∀ z : List Nat, Eqv n (wt A) (w.reverse ++ (w ++ z)) z := fun z => by
    have := Eqv.app (Eqv.revl (n := n) (c := wt A) w) (Eqv.rfl (w := z))
    simpa using this
  exact (e4 b).symm.trans (e3.trans (e4 b'))
/-! by computing -/
def loC (n : Nat) (A : List Ang) (q : List Nat) (s : Nat) : Bool := (actC n A q (vl n (alpha s))).all fun x => decide (x ≤ 0)
theorem loC_iff {q : List Nat} (hq : Lt n q) {s : Nat} (hs : s < n) : loC n A q s = true ↔ Lo (act n (wt A) q (alpha s)) := by
  unfold loC
  rw [← actC_eq hq, List.all_eq_true]
  unfold vl
  constructor
  · intro h k
    by_cases hk : k < n
    · have := h _ (List.mem_map_of_mem (List.mem_range.mpr hk))
      simpa using this
    · rw [act_low hq _ (by omega), alpha_other (by omega)]
      omega
  · intro h x hx
    obtain ⟨k, _, rfl⟩ := List.mem_map.mp hx
    simpa using h k
def isGre (n : Nat) (A : List Ang) : List Nat → List Nat → Bool
  | q, [] => (List.range n).all fun s => !loC n A q s
  | q, s :: x => decide (s < n) && loC n A q s && ((List.range s).all fun t => !loC n A q t) && isGre n A (q ++ [s]) x
theorem isGre_ok : ∀ {x q : List Nat}, Lt n q → isGre n A q x = true → Greedy n (wt A) q x
  | [], q, hq, h => .nil fun s hs hl => by
    have := List.all_eq_true.mp h s (List.mem_range.mpr hs)
    rw [(loC_iff hq hs).mpr hl] at this
    cases this
  | s :: x, q, hq, h => by
    unfold isGre at h
    simp only [Bool.and_eq_true, decide_eq_true_eq] at h
    obtain ⟨⟨⟨h1, h2⟩, h3⟩, h4⟩ := h
    refine .cons h1 ((loC_iff hq h1).mp h2) (fun t ht hl => ?_) (isGre_ok (hq.app (.one h1)) h4)
    have := List.all_eq_true.mp h3 t (List.mem_range.mpr ht)
    rw [(loC_iff hq (by omega)).mpr hl] at this
    cases this
theorem fstC (G : Good n A) {w x : List Nat} (hw : Lt n w) (h : isGre n A w.reverse x = true) : Fst n A w x := greedy_fst G hw (isGre_ok hw.rev h)
def restC (n : Nat) (A : List Ang) (J q : List Nat) : Bool := J.all fun s => !(decide (s < n) && loC n A q s)
theorem restC_ok {J q : List Nat} (hq : Lt n q) (h : restC n A J q = true) : Rest n (wt A) J q := fun s hs hn hl => by
  have := List.all_eq_true.mp h s hs
  rw [(loC_iff hq hn).mpr hl, decide_eq_true hn] at this
  cases this
theorem cutC (G : Good n A) {J w b x y : List Nat} (hw : Lt n w) (hb : Lt n b) (hJ : b.all (fun i => decide (i ∈ J)) = true) (hr : restC n A J (w ++ b) = true) (hx : isGre n A w.reverse x = true) (hy : isGre n A (w ++ b).reverse y = true) (hl : y.length + b.length = x.length) : CutB n A J w b := by
  refine ⟨hb, fun i hi => by simpa using List.all_eq_true.mp hJ i hi, restC_ok (hw.app hb) hr, ?_⟩
  have h1 := (fstC G hw hx).len hw
  have h2 := (fstC G (hw.app hb) hy).len (hw.app hb)
  omega
theorem dblC (G : Good n A) {I J w x a b : List Nat} (hw : Lt n w) (ha : Lt n a) (hb : Lt n b) (hx : Lt n x) (hI : a.all (fun i => decide (i ∈ I)) = true) (hJ : b.all (fun i => decide (i ∈ J)) = true) (he : Eqv n (wt A) x (a ++ w ++ b)) (h1 : restC n A J x = true) (h2 : restC n A I x.reverse = true) (h3 : isGre n A x.reverse x = true) : Dbl n A I J w x :=
  ⟨⟨a, b, ha, hb, fun i hi => by simpa using List.all_eq_true.mp hI i hi, fun i hi => by simpa using List.all_eq_true.mp hJ i hi, he⟩, restC_ok hx h1, restC_ok hx.rev h2, fstC G hx h3⟩
end
end K21
set_option Elab.async false
set_option linter.all false
set_option maxRecDepth 100000
set_option maxHeartbeats 1000000
namespace K21
open Dn Br Cox
section
variable {n : Nat} {A : List Ang} {m : Mu}
def body_right : Dl → Mu → Ro := (seq2 (asg2 (on2 F_law_plan (cons2 (var2 0) (cons2 (con2 (.int 4)) nil2))) (name2 2))
      (seq2 (par2 3 4 (cons2 (on2 F_law_made (cons2 (var2 2) nil2)) (cons2 (on2 F_law_word (cons2 (var2 0) (cons2 (var2 2) (cons2 (con2 (.int 7)) nil2)))) nil2)))
      (seq2 (asg2 (tup2 (cons2 (on2 F_law_lot (cons2 (var2 0) (cons2 (var2 2) nil2))) (cons2 (on2 F_law_lot (cons2 (var2 0) (cons2 (var2 2) nil2))) nil2))) (tupG 2 (gcons2 (name2 5) (gcons2 (name2 6) gnil2))))
      (seq2 (asg2 (on2 F_parted (cons2 (var2 3) (cons2 (var2 4) (cons2 (var2 5) nil2)))) (name2 7))
      (seq2 (if2 (orT (notT (tst2 (on2 (isinstD ["Mirrors"]) (cons2 (var2 7) (cons2 (con2 (.ty "tuple")) nil2))))) (orT (bool2 (op2 neD (on2 lenD (cons2 (var2 7) nil2)) (con2 (.int 2)))) (bool2 (op2 neD (call2K F_parted 0 3 [2, 1, 0] nil2 (cons2 (var2 5) (cons2 (var2 4) (cons2 (var2 3) nil2)))) (var2 7)))))
      (ret2 (con2 (.bl false)))
      nop2)
      (seq2 (asg2 (var2 7) (tupG 2 (gcons2 (name2 8) (gcons2 (name2 9) gnil2))))
      (seq2 (if2 (orT (bool2 (op2 neD (var2 8) (on2 F_law_shortest_of (cons2 (var2 2) (cons2 (var2 4) (cons2 (con2 (.str (ofS ""))) (cons2 (var2 5) nil2))))))) (bool2 (op2 neD (lc2 (it2 (var2 9)) (name2 11) (bool2 (op2 notInD (var2 11) (var2 5))) (var2 11) [11]) (lst2 nil2))))
      (ret2 (con2 (.bl false)))
      nop2)
      (seq2 (if2 (orT (bool2 (op2 neD (on2 F_law_class (cons2 (var2 2) (cons2 (op2 addD (var2 8) (var2 9)) nil2))) (on2 F_law_class (cons2 (var2 2) (cons2 (var2 4) nil2))))) (bool2 (op2 neD (op2 idxD (on2 F_law_class (cons2 (var2 2) (cons2 (var2 9) nil2))) (con2 (.int 0))) (var2 9))))
      (ret2 (con2 (.bl false)))
      nop2)
      (seq2 (if2 (bool2 (op2 neD (op2 addD (on2 lenD (cons2 (var2 8) nil2)) (on2 lenD (cons2 (var2 9) nil2))) (on2 lenD (cons2 (op2 idxD (on2 F_law_class (cons2 (var2 2) (cons2 (var2 4) nil2))) (con2 (.int 0))) nil2))))
      (ret2 (con2 (.bl false)))
      nop2)
      (seq2 (asg2 (on2 F_law_shortest_of (cons2 (var2 2) (cons2 (var2 4) (cons2 (var2 5) (cons2 (var2 6) nil2))))) (name2 10))
      (seq2 (if2 (bool2 (op2 neD (on2 reprD (cons2 (lst2 (cons2 (on2 F_inner (cons2 (var2 3) (cons2 (var2 5) (cons2 (var2 4) (cons2 (var2 6) nil2))))) (cons2 (call2K F_inner 0 4 [3, 2, 1, 0] nil2 (cons2 (var2 6) (cons2 (var2 4) (cons2 (var2 5) (cons2 (var2 3) nil2))))) nil2))) nil2)) (on2 reprD (cons2 (lst2 (cons2 (var2 10) (cons2 (var2 10) nil2))) nil2))))
      (ret2 (con2 (.bl false)))
      nop2)
      (seq2 (asg2 (bm2 "str" joinM (con2 (.str (ofS ""))) (cons2 (on2 sorted2 (cons2 (on2 dictP (cons2 (lc2 (it2 (op2 idxD (on2 F_law_class (cons2 (var2 2) (cons2 (var2 4) nil2))) (con2 (.int 0)))) (name2 11) yes2 (tup2 (cons2 (var2 11) (cons2 (con2 (.bl true)) nil2))) [11]) nil2)) nil2)) nil2)) (name2 10))
      (seq2 (if2 (bool2 (op2 neD (on2 reprD (cons2 (lst2 (cons2 (on2 F_support (cons2 (var2 3) (cons2 (var2 4) nil2))) (cons2 (call2K F_support 0 2 [1, 0] nil2 (cons2 (var2 4) (cons2 (var2 3) nil2))) nil2))) nil2)) (on2 reprD (cons2 (lst2 (cons2 (var2 10) (cons2 (var2 10) nil2))) nil2))))
      (ret2 (con2 (.bl false)))
      nop2)
      (seq2 (asg2 (op2 eqD (lc2 (it2 (var2 10)) (name2 11) (bool2 (op2 notInD (var2 11) (var2 5))) (var2 11) [11]) (lst2 nil2)) (name2 10))
      (if2 (bool2 (op2 neD (on2 reprD (cons2 (lst2 (cons2 (on2 F_is_part (cons2 (var2 3) (cons2 (var2 4) (cons2 (var2 5) nil2)))) (cons2 (call2K F_is_part 0 3 [2, 1, 0] nil2 (cons2 (var2 5) (cons2 (var2 4) (cons2 (var2 3) nil2)))) nil2))) nil2)) (on2 reprD (cons2 (lst2 (cons2 (var2 10) (cons2 (var2 10) nil2))) nil2))))
      (ret2 (con2 (.bl false)))
      nop2)))))))))))))))
theorem pow4 {n k : Nat} (hn : n ≤ 4) (hk : k ≤ 8) : n ^ k ≤ 999999 := by
  have h1 : n ^ k ≤ 4 ^ k := Nat.pow_le_pow_left hn k
  have h2 : 4 ^ k ≤ 4 ^ 8 := Nat.pow_le_pow_right (by decide) hk
  have h3 : 4 ^ 8 ≤ 999999 := by decide
  omega
/-- letters of u that are not in J: none -/
theorem notin_comp {u J : List Nat} (h : Sub J u) (δ : Dl) (hl : δ.length = 12) (h5 : δ[5]? = some (some (Wrd J))) :
    comp2 (name2 11) (bool2 (op2 notInD (var2 11) (var2 5))) (var2 11) δ (u.map fun j => Lt1 j) m = .ok [] m := by
  obtain ⟨m', e, rfl⟩ := comp_flt (g := name2 11) (tt := bool2 (op2 notInD (var2 11) (var2 5))) (te := var2 11) (δ := δ) (I := fun m' => m' = m) (p := fun j : Nat => Lt1 j) (q := fun j : Nat => Lt1 j) (b := fun _ => false) u (m := m) rfl (fun j hj m' hm => by
    subst hm
    have h11 : (δ.set 11 (some (Lt1 j)))[11]? = some (some (Lt1 j)) := List.getElem?_set_self (by omega)
    have h5' : (δ.set 11 (some (Lt1 j)))[5]? = some (some (Wrd J)) := by rw [List.getElem?_set_ne (by decide)]; exact h5
    have hi := in_wrd (m := m') J j
    rw [decide_eq_true (h j hj)] at hi
    refine ⟨_, m', name2_ap _ _ _ _, ?_, rfl, fun z => by cases z⟩
    simp -implicitDefEqProofs [h11, h5', hi])
  rw [e]
  congr 1
  simp
theorem notin_comp2 (u J : List Nat) (δ : Dl) (hl : δ.length = 12) (h5 : δ[5]? = some (some (Wrd J))) :
    comp2 (name2 11) (bool2 (op2 notInD (var2 11) (var2 5))) (var2 11) δ (u.map fun j => Lt1 j) m = .ok ((u.filter fun j => !decide (j ∈ J)).map fun j => Lt1 j) m := by
  obtain ⟨m', e, rfl⟩ := comp_flt (g := name2 11) (tt := bool2 (op2 notInD (var2 11) (var2 5))) (te := var2 11) (δ := δ) (I := fun m' => m' = m) (p := fun j : Nat => Lt1 j) (q := fun j : Nat => Lt1 j) (b := fun j => !decide (j ∈ J)) u (m := m) rfl (fun j hj m' hm => by
    subst hm
    have h11 : (δ.set 11 (some (Lt1 j)))[11]? = some (some (Lt1 j)) := List.getElem?_set_self (by omega)
    have h5' : (δ.set 11 (some (Lt1 j)))[5]? = some (some (Wrd J)) := by rw [List.getElem?_set_ne (by decide)]; exact h5
    have hi := in_wrd (m := m') J j
    refine ⟨_, m', name2_ap _ _ _ _, ?_, rfl, fun _ => ⟨m', ?_, rfl⟩⟩
    · simp -implicitDefEqProofs [h11, h5', hi]
    · simp -implicitDefEqProofs [h11])
  exact e
theorem dict_comp (u : List Nat) (δ : Dl) (hl : δ.length = 12) :
    comp2 (name2 11) yes2 (tup2 (cons2 (var2 11) (cons2 (con2 (.bl true)) nil2))) δ (u.map fun j => Lt1 j) m = .ok (u.map fun j => .tup [Lt1 j, .bl true]) m := by
  obtain ⟨m', e, rfl⟩ := comp_on (g := name2 11) (te := tup2 (cons2 (var2 11) (cons2 (con2 (.bl true)) nil2))) (δ := δ) (I := fun m' => m' = m) (p := fun j : Nat => Lt1 j) (q := fun j : Nat => .tup [Lt1 j, .bl true]) u (m := m) rfl (fun j hj m' hm => by
    subst hm
    have h11 : (δ.set 11 (some (Lt1 j)))[11]? = some (some (Lt1 j)) := List.getElem?_set_self (by omega)
    refine ⟨_, m', name2_ap _ _ _ _, ?_, rfl⟩
    simp -implicitDefEqProofs [h11, SZ_val])
  exact e
theorem right_step {r : Nat} (h : Tub m r) (a1 a2 a3 a4 a5 a6 a7 a8 a9 a10 a11 : Option D) : ∃ b2 b3 b4 b5 b6 b7 b8 b9 b10 b11 m', body_right [some (.ref r), a1, a2, a3, a4, a5, a6, a7, a8, a9, a10, a11] m = .next [some (.ref r), a1, b2, b3, b4, b5, b6, b7, b8, b9, b10, b11] m' ∧ TS r m m' := by
  obtain ⟨n, A, m1, e1, G, hn4, t1⟩ := s_planM h (most := 4) (by decide) (by decide)
  have e1 : F_law_plan [.ref r, .int 4] m = .ok (plan n A) m1 := e1
  have h6 := G.n6
  obtain ⟨m2, e2, g2⟩ := s_law_made (m := m1) G
  have t2 : TS r m1 m2 := t1.tub.gr g2
  obtain ⟨w, m3, e3, hw, hl, t3⟩ := s_law_word (m := m2) t2.tub G (most := 7) (by omega)
  have e3 : F_law_word [.ref r, plan n A, .int 7] m2 = .ok (Wrd w) m3 := e3
  obtain ⟨J, m4, e4, lJ, pJ, hJ, t4⟩ := s_law_lot (m := m3) t3.tub G
  obtain ⟨K, m5, e5, lK, pK, hK, t5⟩ := s_law_lot (m := m4) t4.tub G
  obtain ⟨b, x, y, m6, e6, cb, fx, fy, x6⟩ := s_parted (m := m5) G hw (by omega) lJ pJ (by omega)
  obtain ⟨b', x', y', m7, e7, cb', fx', fy', x7⟩ := s_parted (m := m6) G hw (by omega) lJ pJ (by omega)
  have ebb := cut_uniq G hw cb cb'
  have exx : x' = x := fx'.uniq fx (Eqv.app .rfl ebb.symm)
  have eyy : y' = y := fy'.uniq fy ebb.symm.rev
  subst exx eyy
  have dx : Dbl n A [] J w x' := ⟨⟨[], b, .nil, cb.lt, .nil, cb.sub, by simpa using fx.eqv.symm⟩, cb.rest.eqv fx.eqv, (fun s hs => by cases hs), fx.self⟩
  have lx := fx.red.1
  have ly := fy.red.1
  have hlw := len_le_length (c := wt A) hw
  have hxl := fx.len (hw.app cb.lt)
  have hyl := fy.len cb.lt.rev
  have hbl := cb.len
  -- the letters taken make a shortest word
  have hrb : len n (wt A) b.reverse = b.length := by
    have q1 := len_le_length (c := wt A) cb.lt.rev
    rw [List.length_reverse] at q1
    have q2 : Eqv n (wt A) w (x' ++ b.reverse) := by
      have := Eqv.app fx.eqv (Eqv.rfl (w := b.reverse))
      have q3 : Eqv n (wt A) (w ++ (b ++ b.reverse)) (w ++ []) := Eqv.app .rfl (Eqv.revr b)
      have q4 : w ++ b ++ b.reverse = w ++ (b ++ b.reverse) := by simp
      rw [q4] at this
      rw [List.append_nil] at q3
      exact q3.symm.trans this
    have q5 := len_eqv hw (lx.app cb.lt.rev) q2
    -- len w ≤ |x| + len b⁻¹
    have q6 : Eqv n (wt A) (x' ++ b.reverse) (x' ++ y') := Eqv.app .rfl fy.eqv
    have q7 := len_eqv (lx.app cb.lt.rev) (lx.app ly) q6
    have q8 := len_le_length (c := wt A) (lx.app ly)
    rw [List.length_append] at q8
    omega
  have ew : Eqv n (wt A) (x' ++ y') w := by
    have q1 : Eqv n (wt A) (x' ++ y') ((w ++ b) ++ b.reverse) := Eqv.app fx.eqv.symm fy.eqv.symm
    have q3 : Eqv n (wt A) (w ++ (b ++ b.reverse)) (w ++ []) := Eqv.app .rfl (Eqv.revr b)
    have q4 : w ++ b ++ b.reverse = w ++ (b ++ b.reverse) := by simp
    rw [q4] at q1
    rw [List.append_nil] at q3
    exact q1.trans q3
  have hsum : x'.length + y'.length = len n (wt A) w := by omega
  have sy : Sub J y' := red_sub (okc G) cb.lt.rev cb.sub.rev fy.red fy.eqv
  obtain ⟨z8, m8, e8, dz8, _, x8⟩ := s_law_shortest_of (m := m7) G hn4 (I := []) (J := J) hw hl .nil (by simp) lJ hJ (fun k hk => pow4 hn4 hk)
  have ez8 := dz8.uniq G dx
  subst ez8
  obtain ⟨u9, S9, m9, e9, f9, c9, x9⟩ := cls_head (m := m8) G (lx.app ly) (by simp; omega) (fun k hk => pow4 hn4 (by simp at hk; omega))
  obtain ⟨u10, S10, m10, e10, f10, c10, x10⟩ := cls_head (m := m9) G hw (by omega) (fun k hk => pow4 hn4 (by omega))
  have ecl : u9 :: S9 = u10 :: S10 := c9.same c10 ew
  rw [ecl] at e9
  obtain ⟨u11, S11, m11, e11, f11, c11, x11⟩ := cls_head (m := m10) G ly (by omega) (fun k hk => pow4 hn4 (by omega))
  have eu11 : u11 = y' := f11.uniq fy.self .rfl
  subst eu11
  obtain ⟨u12, S12, m12, e12, f12, c12, x12⟩ := cls_head (m := m11) G hw (by omega) (fun k hk => pow4 hn4 (by omega))
  have eu12 : u12 = u10 := f12.uniq f10 .rfl
  subst eu12
  have hu12 := f12.len hw
  obtain ⟨d, m13, e13, dd13, hdl, x13⟩ := s_law_shortest_of (m := m12) G hn4 (I := J) (J := K) hw hl lJ hJ lK hK (fun k hk => pow4 hn4 hk)
  obtain ⟨p, m14, e14, d14, x14⟩ := s_inner (m := m13) (I := J) (J := K) G hw (by omega) lJ pJ (by omega) lK pK (by omega)
  obtain ⟨p', m15, e15, d15, x15⟩ := s_inner (m := m14) (I := J) (J := K) G hw (by omega) lJ pJ (by omega) lK pK (by omega)
  have ep := d14.uniq G dd13
  have ep' := d15.uniq G dd13
  subst ep
  subst ep'
  have pd := pair_rep (m := m15) (wc_sh (Lt.l26 G d15.fst.red.1) (by omega))
  obtain ⟨u16, S16, m16, e16, f16, c16, x16⟩ := cls_head (m := m15) G hw (by omega) (fun k hk => pow4 hn4 (by omega))
  have eu16 : u16 = u12 := f16.uniq f12 .rfl
  subst eu16
  have lu := f16.red.1
  obtain ⟨s17, m17, e17, f17, x17⟩ := s_support (m := m16) G hw (by omega)
  obtain ⟨s18, m18, e18, f18, x18⟩ := s_support (m := m17) G hw (by omega)
  have es17 : s17 = u16 := f17.uniq f16 .rfl
  have es18 : s18 = u16 := f18.uniq f16 .rfl
  subst es17
  subst es18
  have ps := pair_rep (m := m18) (wc_sh (Lt.l26 G (supp_lt (n := n) s18)) (by have := supp_len (n := n) s18; omega))
  obtain ⟨s19, m19, e19, f19, x19⟩ := s_is_part (m := m18) G hw (by omega) lJ pJ (by omega)
  obtain ⟨s20, m20, e20, f20, x20⟩ := s_is_part (m := m19) G hw (by omega) lJ pJ (by omega)
  have es19 : s19 = s18 := f19.uniq f18 .rfl
  have es20 : s20 = s18 := f20.uniq f18 .rfl
  subst es19
  subst es20
  have tt : TS r m m20 := by
    have q := (((t1.trans t2).trans t3).trans t4).trans t5
    have qx := (((((((x6.trans x7).trans x8).trans x9).trans x10).trans x11).trans x12).trans x13).trans (((((((x14.trans x15).trans x16).trans x17).trans x18).trans x19).trans x20))
    exact q.trans (Ex.ts q.tub qx)
  have hsl := supp_len (n := n) s20
  obtain ⟨B, hB⟩ : ∃ B : Bool, B = (supp n s20).all fun i => decide (i ∈ J) := ⟨_, rfl⟩
  rw [← hB] at e19 e20
  have pb := pair_rep (m := m20) (d := .bl B) (.bl (by decide))
  refine ⟨some (plan n A), some (mir n A), some (Wrd w), some (Wrd J), some (Wrd K), some (.tup [Wrd z8, Wrd u11]), some (Wrd z8), some (Wrd u11), some (.bl B), a11, m20, ?_, tt⟩
  have pl := plan_eq n A
  have q7 : eqB m7 (.tup [Wrd z8, Wrd u11]) (.tup [Wrd z8, Wrd u11]) = some true := by
    have hn : Nm 1 (.tup [Wrd z8, Wrd u11]) := .tup fun d hd => by
      simp only [List.mem_cons, List.not_mem_nil, or_false] at hd
      rcases hd with rfl | rfl
      · exact wrd_nm G lx
      · exact wrd_nm G ly
    exact hn.eqB_t hn (by decide) (by decide) rfl
  have q8 : eqB m8 (Wrd z8) (Wrd z8) = some true := (wrd_nm G lx).eqB_t (wrd_nm G lx) (by decide) (by decide) rfl
  have c8 := notin_comp (m := m8) sy [some (.ref r), a1, some (plan n A), some (mir n A), some (Wrd w), some (Wrd J), some (Wrd K), some (.tup [Wrd z8, Wrd u11]), some (Wrd z8), some (Wrd u11), a10, none] rfl rfl
  have qn8 : eqB m8 (.lst []) (.lst []) = some true := eqB_nil
  have hS10 : ∀ v ∈ s20 :: S10, Lt n v := fun v hv => ((c10.mem v).mp hv).1.1
  have qc : eqB m10 (.lst ((s20 :: S10).map fun u => Wrd u)) (.lst ((s20 :: S10).map fun u => Wrd u)) = some true := by
    have hn : Nm 1 (.lst ((s20 :: S10).map fun u => Wrd u)) := .lst fun d hd => by
      obtain ⟨v, hv, rfl⟩ := List.mem_map.mp hd
      exact wrd_nm G (hS10 v hv)
    exact hn.eqB_t hn (by decide) (by decide) rfl
  have q11 : eqB m11 (Wrd u11) (Wrd u11) = some true := (wrd_nm G ly).eqB_t (wrd_nm G ly) (by decide) (by decide) rfl
  have hx16 : z8.length ≤ 16777216 := by omega
  have hy16 : u11.length ≤ 16777216 := by omega
  have hxy16 : z8.length + u11.length ≤ 16777216 := by omega
  have hu16 : s20.length ≤ 16777216 := by omega
  have hap := wc_app z8 u11
  have hlen : (z8.length : Int) + (u11.length : Int) = (s20.length : Int) := by omega
  have dc := dict_comp (m := m16) s20 [some (.ref r), a1, some (plan n A), some (mir n A), some (Wrd w), some (Wrd J), some (Wrd K), some (.tup [Wrd z8, Wrd u11]), some (Wrd z8), some (Wrd u11), some (Wrd p'), none] rfl
  have hmg : mergeD (s20.map fun k => .tup [Lt1 k, .bl true]) [] [] = some (kS (dd s20 []), vS (dd s20 [])) := merge_set s20 [] (by simp)
  have hks := keysS_kS (dd s20 [])
  have hdl2 := dd_len lu
  have hsd := sort_dd lu
  have hss := strsOf_fn lc (supp n s20)
  have hj : joinC (wc []) ((supp n s20).map lc) = wc (supp n s20) := joinC_nil (supp n s20)
  have hs1 : ((supp n s20).map ((fun x => List.length x) ∘ lc)).sum = (supp n s20).length := sum_ones (supp n s20)
  have hsl16 : (supp n s20).length ≤ 16777216 := by omega
  have hso : sorted2 [.dct (kS (dd s20 [])) (vS (dd s20 []))] m16 = .ok (.lst ((supp n s20).map fun k => Lt1 k)) m16 := by
    have e : sorted2 [.dct (kS (dd s20 [])) (vS (dd s20 []))] m16 = (match keysS (kS (dd s20 [])) with | some xs => if xs.length < 64 then .ok (.lst ((sortC xs).map D.str)) m16 else .bad | none => .bad) := rfl
    rw [e, hks]
    dsimp only
    rw [if_pos (by rw [List.length_map]; omega), hsd, List.map_map]
    rfl
  have c18 := notin_comp2 (m := m18) (supp n s20) J [some (.ref r), a1, some (plan n A), some (mir n A), some (Wrd w), some (Wrd J), some (Wrd K), some (.tup [Wrd z8, Wrd u11]), some (Wrd z8), some (Wrd u11), some (Wrd (supp n s20)), none] rfl rfl
  have hfl : ((supp n s20).filter fun j => !decide (j ∈ J)).length ≤ 16777216 := by
    have := List.length_filter_le (fun j => !decide (j ∈ J)) (supp n s20)
    omega
  have q18 : eqB m18 (.lst (((supp n s20).filter fun j => !decide (j ∈ J)).map fun j => Lt1 j)) (.lst []) = some B := by
    have hn : ∀ l : List Nat, (∀ i ∈ l, i < n) → Nm 1 (.lst (l.map fun j => Lt1 j)) := fun l hl => .lst fun d hd => by
      obtain ⟨i, hi, rfl⟩ := List.mem_map.mp hd
      exact .str (lc_ok (by have := hl i hi; omega))
    have h1 := hn ((supp n s20).filter fun j => !decide (j ∈ J)) fun i hi => supp_lt s20 i (List.mem_filter.mp hi).1
    have h0 : Nm 1 (.lst []) := .lst fun d hd => by cases hd
    by_cases he : (supp n s20).filter (fun j => !decide (j ∈ J)) = []
    · have hBt : B = true := by
        rw [hB, List.all_eq_true]
        intro i hi
        refine Classical.byContradiction fun hx => ?_
        have : i ∈ (supp n s20).filter fun j => !decide (j ∈ J) := List.mem_filter.mpr ⟨hi, by simpa using hx⟩
        rw [he] at this
        cases this
      rw [hBt]
      exact h1.eqB_t h0 (by decide) (by decide) (by rw [he]; rfl)
    · have hBf : B = false := by
        rw [hB, Bool.eq_false_iff]
        intro hx
        rw [List.all_eq_true] at hx
        exact he (List.filter_eq_nil_iff.mpr fun i hi => by rw [hx i hi]; simp)
      rw [hBf]
      exact h1.eqB_f h0 (by decide) (by decide) fun z => he (by
        injection z with z
        exact List.map_eq_nil_iff.mp z)
  have wi := fun u => wc_items u
  rw [pl] at e1 e2 e3 e4 e5 e8 e9 e10 e11 e12 e13 e16 c8 dc c18 ⊢
  simp -implicitDefEqProofs only [List.map_cons] at e9 e10 e11 e12 e16 qc
  have u2' : ofS "" = wc [] := by decide +kernel
  have b2 : ∀ b : Bool, (Option.map (fun x => !x) (some b)) = some (!b) := fun _ => rfl
  have hik : isK ["Mirrors"] m6 (.ty "tuple") (.tup [Wrd z8, Wrd u11]) = .ok (.bl true) m6 := by
    unfold isK
    rfl
  simp -implicitDefEqProofs [body_right, e1, e2, e3, e4, e5, e6, hik, e7, permD, pick, q7, SZ_val, u2', e8, q8, wi, c8, qn8, hx16, hy16, hxy16, wc_len, hap, e9, e10, qc, e11, q11, hlen, e12, hu16, e13, e14, e15, pd.1, pd.2, e16, dc, hmg, hso, hss, hj, hs1, hsl16, e17, e18, ps.1, ps.2, c18, hfl, q18, e19, e20, pb.1, pb.2]
end
end K21
set_option Elab.async false
set_option linter.all false
set_option maxRecDepth 100000
set_option maxHeartbeats 1000000
namespace K21
open Dn Br Cox
section
variable {n : Nat} {A : List Ang} {m : Mu}
theorem s_law_right {r : Nat} (h : Tub m r) : ∃ m', F_law_right [.ref r] m = .ok (.bl true) m' ∧ TS r m m' := by
  have L := for_inv (g := name2 1) (tb := body_right) (ds := intsFrom 0 5)
    (I := fun i δ m' => (∃ a1 a2 a3 a4 a5 a6 a7 a8 a9 a10 a11, δ = [some (.ref r), a1, a2, a3, a4, a5, a6, a7, a8, a9, a10, a11]) ∧ TS r m m') (fun i d δ m' hd hI => by
      obtain ⟨⟨a1, a2, a3, a4, a5, a6, a7, a8, a9, a10, a11, rfl⟩, t⟩ := hI
      obtain ⟨b2, b3, b4, b5, b6, b7, b8, b9, b10, b11, m2, e, t2⟩ := right_step t.tub (some d) a2 a3 a4 a5 a6 a7 a8 a9 a10 a11
      exact ⟨_, m2, e, ⟨some d, b2, b3, b4, b5, b6, b7, b8, b9, b10, b11, rfl⟩, t.trans t2⟩)
    [some (.ref r), none, none, none, none, none, none, none, none, none, none, none] m ⟨⟨none, none, none, none, none, none, none, none, none, none, none, rfl⟩, .refl h⟩
  obtain ⟨δ', m', e, ⟨a1, a2, a3, a4, a5, a6, a7, a8, a9, a10, a11, rfl⟩, t⟩ := L
  refine ⟨m', ?_, t⟩
  unfold body_right at e
  simp -implicitDefEqProofs [F_law_right_eq, tb_law_right_eq, small62_of (show (-1000000000 : Int) ≤ 5 by decide) (by decide), e]
def A1 : List Ang := [(0, 1, 3), (1, 2, 3)]
theorem G1 : Good 3 A1 := ⟨by decide, by decide, by decide, by decide, by decide⟩
theorem x1 : splitC (ofS "abc ab3 bc3") (ofS " ") = wc (List.range 3) :: A1.map wordA := by decide +kernel
theorem u1 : ofS "cab" = wc [2, 0, 1] := by decide +kernel
theorem u2 : ofS "" = wc [] := by decide +kernel
theorem u3 : ofS "abacba" = wc [0, 1, 0, 2, 1, 0] := by decide +kernel
theorem u4 : ofS "ab" = wc [0, 1] := by decide +kernel
theorem u5 : ofS "a" = wc [0] := by decide +kernel
theorem u6 : ofS "c" = wc [2] := by decide +kernel
theorem u7 : ofS "abc" = wc [0, 1, 2] := by decide +kernel
theorem u8 : ofS "aba" = wc [0, 1, 0] := by decide +kernel
theorem u9 : ofS "acb" = wc [0, 2, 1] := by decide +kernel
theorem u10 : ofS "b" = wc [1] := by decide +kernel
theorem u11 : ofS "cac" = wc [2, 0, 2] := by decide +kernel
theorem u12 : ofS "abcb" = wc [0, 1, 2, 1] := by decide +kernel
theorem u13 : ofS "abab" = wc [0, 1, 0, 1] := by decide +kernel
/-- a part at a written place -/
theorem partC {w J b x y z : List Nat} (hw : w.all (· < 3) = true) (hl : w.length ≤ 50) (hJ : J.all (· < 3) = true) (hp : J.Pairwise (· < ·)) (hJl : J.length ≤ 100) (hb : b.all (· < 3) = true) (h1 : b.all (fun i => decide (i ∈ J)) = true) (h2 : restC 3 A1 J (w ++ b) = true) (h3 : isGre 3 A1 w.reverse z = true) (h4 : isGre 3 A1 (w ++ b).reverse x = true) (h5 : isGre 3 A1 b y = true) (h6 : x.length + b.length = z.length) :
    ∃ m', F_parted [mir 3 A1, Wrd w, Wrd J] m = .ok (.tup [Wrd x, Wrd y]) m' ∧ Ex m m' := by
  have lw := lt_of hw
  have lb := lt_of hb
  obtain ⟨b', x', y', m', e, cb, fx, fy, hx⟩ := s_parted (m := m) G1 lw hl (lt_of hJ) hp hJl
  have c := cutC G1 lw lb h1 h2 h3 h4 h6
  have eb := cut_uniq G1 lw cb c
  have q1 : x' = x := fx.uniq (fstC G1 (lw.app lb) h4) (Eqv.app .rfl eb)
  have q2 : y' = y := fy.uniq (fstC G1 lb.rev (by rw [List.reverse_reverse]; exact h5)) eb.rev
  subst q1
  subst q2
  exact ⟨m', e, hx⟩
theorem innerC {w I J a b x : List Nat} (hw : w.all (· < 3) = true) (hl : w.length ≤ 50) (hI : I.all (· < 3) = true) (hIp : I.Pairwise (· < ·)) (hIl : I.length ≤ 100) (hJ : J.all (· < 3) = true) (hJp : J.Pairwise (· < ·)) (hJl : J.length ≤ 100) (ha : a.all (· < 3) = true) (hb : b.all (· < 3) = true) (hx : x.all (· < 3) = true) (h1 : a.all (fun i => decide (i ∈ I)) = true) (h2 : b.all (fun i => decide (i ∈ J)) = true) (h3 : (List.range 3).all (sameC 3 A1 x (a ++ w ++ b)) = true) (h4 : restC 3 A1 J x = true) (h5 : restC 3 A1 I x.reverse = true) (h6 : isGre 3 A1 x.reverse x = true) :
    ∃ m', F_inner [mir 3 A1, Wrd I, Wrd w, Wrd J] m = .ok (Wrd x) m' ∧ Ex m m' := by
  have lw := lt_of hw
  obtain ⟨x', m', e, d, hx'⟩ := s_inner (m := m) G1 lw hl (lt_of hI) hIp hIl (lt_of hJ) hJp hJl
  have c := dblC G1 lw (lt_of ha) (lt_of hb) (lt_of hx) h1 h2 (eqvC (lt_of hx) (((lt_of ha).app lw).app (lt_of hb)) h3) h4 h5 h6
  have q := d.uniq G1 c
  subst q
  exact ⟨m', e, hx'⟩
theorem suppC {w x y : List Nat} (hw : w.all (· < 3) = true) (hl : w.length ≤ 60) (h : isGre 3 A1 w.reverse x = true) (hy : supp 3 x = y) : ∃ m', F_support [mir 3 A1, Wrd w] m = .ok (Wrd y) m' ∧ Ex m m' := by
  obtain ⟨x', m', e, f, hx⟩ := s_support (m := m) G1 (lt_of hw) hl
  have q : x' = x := f.uniq (fstC G1 (lt_of hw) h) .rfl
  subst q
  subst hy
  exact ⟨m', e, hx⟩
theorem law_true (ns : List Int) (hns : ns.length ≤ 63) : ∃ m, F_law [.scr ns] [] = .ok (.bl true) m := by
  obtain ⟨m1, e1, g1⟩ := s_read G1 x1 (by decide +kernel) []
  obtain ⟨m2, e2, _⟩ := partC (m := m1) (w := [2, 0, 1]) (J := [0, 1]) (b := [1, 0]) (x := [2]) (y := [0, 1]) (z := [0, 2, 1]) (by decide) (by decide) (by decide) (by decide) (by decide) (by decide) (by decide) (by decide +kernel) (by decide +kernel) (by decide +kernel) (by decide +kernel) (by decide)
  obtain ⟨m3, e3, _⟩ := partC (m := m2) (w := [0, 1, 0, 2, 1, 0]) (J := [0, 1]) (b := [0, 1, 0]) (x := [0, 1, 2]) (y := [0, 1, 0]) (z := [0, 1, 0, 2, 1, 0]) (by decide) (by decide) (by decide) (by decide) (by decide) (by decide) (by decide) (by decide +kernel) (by decide +kernel) (by decide +kernel) (by decide +kernel) (by decide)
  obtain ⟨m4, e4, _⟩ := partC (m := m3) (w := [2, 0, 1]) (J := []) (b := []) (x := [0, 2, 1]) (y := []) (z := [0, 2, 1]) (by decide) (by decide) (by decide) (by decide) (by decide) (by decide) (by decide) (by decide +kernel) (by decide +kernel) (by decide +kernel) (by decide +kernel) (by decide)
  obtain ⟨m5, e5, _⟩ := innerC (m := m4) (w := [0, 1, 2]) (I := [0]) (J := [2]) (a := [0]) (b := [2]) (x := [1]) (by decide) (by decide) (by decide) (by decide) (by decide) (by decide) (by decide) (by decide) (by decide) (by decide) (by decide) (by decide) (by decide) (by decide +kernel) (by decide +kernel) (by decide +kernel) (by decide +kernel)
  obtain ⟨m6, e6, _⟩ := innerC (m := m5) (w := [0, 1, 0, 2, 1, 0]) (I := [0, 1]) (J := [0, 1]) (a := [0, 1, 0]) (b := [0, 1]) (x := [2]) (by decide) (by decide) (by decide) (by decide) (by decide) (by decide) (by decide) (by decide) (by decide) (by decide) (by decide) (by decide) (by decide) (by decide +kernel) (by decide +kernel) (by decide +kernel) (by decide +kernel)
  obtain ⟨m7, e7, _⟩ : ∃ m', F_is_part [mir 3 A1, Wrd [2, 0, 2], Wrd [0, 1]] m6 = .ok (.bl true) m' ∧ Ex m6 m' := by
    obtain ⟨x', m', e, f, hx⟩ := s_is_part (m := m6) G1 (w := [2, 0, 2]) (J := [0, 1]) (lt_of (by decide)) (by decide) (lt_of (by decide)) (by decide) (by decide)
    have q : x' = [0] := f.uniq (fstC G1 (lt_of (by decide)) (by decide +kernel)) .rfl
    subst q
    exact ⟨m', e, hx⟩
  obtain ⟨m8, e8, _⟩ := suppC (m := m7) (w := [0, 1, 2, 1]) (x := [0, 1, 2, 1]) (y := [0, 1, 2]) (by decide) (by decide) (by decide +kernel) (by decide)
  obtain ⟨m9, e9, _⟩ := suppC (m := m8) (w := [0, 1, 0, 1]) (x := [1, 0]) (y := [0, 1]) (by decide) (by decide) (by decide +kernel) (by decide)
  obtain ⟨m10, e10, _⟩ := suppC (m := m9) (w := []) (x := []) (y := []) (by decide) (by decide) (by decide +kernel) (by decide)
  have nw : ∀ w : List Nat, w.all (· < 3) = true → ∀ c, Nm c (Wrd w) := fun w hw c => .str (wc_ok (Lt.l26 G1 (lt_of hw)))
  have eq1 : eqB m6 (.lst [.tup [Wrd [2], Wrd [0, 1]], .tup [Wrd [0, 1, 2], Wrd [0, 1, 0]], .tup [Wrd [0, 2, 1], Wrd []], Wrd [1], Wrd [2]]) (.lst [.tup [Wrd [2], Wrd [0, 1]], .tup [Wrd [0, 1, 2], Wrd [0, 1, 0]], .tup [Wrd [0, 2, 1], Wrd []], Wrd [1], Wrd [2]]) = some true := by
    have h2 : ∀ a b : List Nat, a.all (· < 3) = true → b.all (· < 3) = true → Nm 1 (.tup [Wrd a, Wrd b]) := fun a b ha hb => .tup fun d hd => by
      simp only [List.mem_cons, List.not_mem_nil, or_false] at hd
      rcases hd with rfl | rfl
      · exact nw _ ha 0
      · exact nw _ hb 0
    have h : Nm 2 (.lst [.tup [Wrd [2], Wrd [0, 1]], .tup [Wrd [0, 1, 2], Wrd [0, 1, 0]], .tup [Wrd [0, 2, 1], Wrd []], Wrd [1], Wrd [2]]) := .lst fun d hd => by
      simp only [List.mem_cons, List.not_mem_nil, or_false] at hd
      rcases hd with rfl | rfl | rfl | rfl | rfl
      · exact h2 _ _ (by decide) (by decide)
      · exact h2 _ _ (by decide) (by decide)
      · exact h2 _ _ (by decide) (by decide)
      · exact nw _ (by decide) 1
      · exact nw _ (by decide) 1
    exact h.eqB_t h (by decide) (by decide) rfl
  have eq2 : eqB m10 (.lst [.bl true, Wrd [0, 1, 2], Wrd [0, 1], Wrd []]) (.lst [.bl true, Wrd [0, 1, 2], Wrd [0, 1], Wrd []]) = some true := by
    have h : Sh 20 1 (3 + 4 * (21 + 2)) (.lst [.bl true, Wrd [0, 1, 2], Wrd [0, 1], Wrd []]) := .lst (ds := [.bl true, Wrd [0, 1, 2], Wrd [0, 1], Wrd []]) fun d hd => by
      simp only [List.mem_cons, List.not_mem_nil, or_false] at hd
      rcases hd with rfl | rfl | rfl | rfl
      · exact .bl (by decide)
      · exact wc_sh (by decide) (by decide)
      · exact wc_sh (by decide) (by decide)
      · exact wc_sh (by decide) (by decide)
    exact h.eqB rfl (by decide)
  obtain ⟨K, hK, hm⟩ : ∃ K : Nat, K ≤ 5 ∧ (on2 maxF (cons2 (con2 (.int 2)) (cons2 (on2 minF (cons2 (on2 lenD (cons2 (var2 0) nil2)) (cons2 (con2 (.int 4)) nil2))) nil2))) [some (.scr ns), some (mir 3 A1), none] m10 = .ok (.int K) m10 := by
    have q1 : ∀ (a b : Int) (m : Mu), minF [.int a, .int b] m = .ok (.int (if decide (b < a) = true then b else a)) m := fun _ _ _ => rfl
    have q2 : ∀ (a b : Int) (m : Mu), maxF [.int a, .int b] m = .ok (.int (if decide (b > a) = true then b else a)) m := fun _ _ _ => rfl
    refine ⟨max 2 (min ns.length 4), by omega, ?_⟩
    simp -implicitDefEqProofs [q1, q2]
    by_cases h : (4 : Int) < (ns.length : Int)
    · simp [h]; omega
    · simp only [h, if_false]
      split <;> omega
  obtain ⟨m11, e11, _⟩ := comp_rangeI (g := name2 2) (te := on2 F_law_right (cons2 (on2 F_law_tub (cons2 (var2 0) (cons2 (var2 2) nil2))) nil2)) (δ := [some (.scr ns), some (mir 3 A1), none]) (I := fun _ => True) (f := fun _ => .bl true) K (m := m10) trivial (fun k hk m _ => by
    obtain ⟨m1, e1, t1, _⟩ := s_law_tub (m := m) ns k (by omega)
    obtain ⟨m2, e2, _⟩ := s_law_right t1
    refine ⟨_, m2, name2_ap _ _ _ _, ?_, trivial⟩
    simp -implicitDefEqProofs [e1, e2])
  have hb := blsOf_fn (fun _ : Nat => true) (List.range K)
  have sK : small62 (K : Int) = true := small62_nat (by omega)
  refine ⟨m11, ?_⟩
  simp -implicitDefEqProofs [F_law_eq, tb_law_eq, e1, u1, u2, u3, u4, u5, u6, u7, u8, u9, u10, u11, u12, u13, SZ_val, e2, e3, e4, e5, e6, e7, e8, e9, e10, eq1, eq2, ↓hm, sK, intsFrom_nat, e11, hb, show K ≤ 16777216 from by omega]
end
end K21
open PySem PySem.W PyProof.Rows in
set_option maxRecDepth 100000 in
set_option maxHeartbeats 0 in
theorem PySem.Challenge.cw_braidwords_k21_whole_parts_by_lots_holds : PySem.Challenge.rw_braidwords_k21_whole_parts_by_lots.Holds := by
  w_on; o_law; k_head; (case hw => w_witness2)
  k_fill
  refine Dn.walkD (l := PySem.Challenge.rw_braidwords_k21_whole_parts_by_lots) (k := 11) rfl rfl ⟨⟨rfl, by decide, by decide⟩, rfl⟩ (fun w h Y => PySem.W.kIn_of Y) ?F K21.law_true
  case F =>
    intro w mg fa h KX G hmg
    refine' K21.law_mk KX G hmg ?bstr ?bisinstance ?blen ?ball ?btuple ?benumerate ?bint ?bbool ?bzip ?bsorted ?brange ?bsum ?bmin ?bmax ?brepr ?bdict ?babs ?gMOST_LETTERS ?gLETTERS ?gMOST_WORD ?gPLAIN ?mNUMBERS ?lNUMBERS ?sNUMBERS ?hNUMBERS0h ?hNUMBERS1h ?hNUMBERS2h ?hNUMBERS3h ?mONES ?lONES ?lONES0 ?lONES1 ?lONES2 ?lONES3 ?lONES4 ?sONES ?hONES0h ?hONES1h ?hONES2h ?hONES3h ?hONES4h ?aMirrors ?pgMirrors ?hdMirrors ?poMirrors ?saMirrors ?kcMirrors ?naMirrorssize ?naMirrorsangles ?is1 ?is2 ?is3 ?is4 ?is5 ?is6 ?is7int ?is7str ?is7bool ?is7tuple ?is7list ?is7dict ?is8NoneType ?is8bool ?is8int ?is8str ?is8tuple ?is8list ?is8dict ?a0 ?l0 ?e0 ?k0 ?a1 ?l1 ?e1 ?k1 ?a2 ?l2 ?e2 ?k2 ?a3 ?l3 ?e3 ?k3 ?a4 ?l4 ?e4 ?k4 ?a5 ?l5 ?e5 ?k5 ?a6 ?g6 ?t6 ?l6 ?e6 ?k6 ?a7 ?g7 ?t7 ?r7e ?n7 ?l7 ?e7 ?k7 ?a8 ?l8 ?e8 ?k8 ?a9 ?g9 ?t9 ?r9e ?l9 ?e9 ?k9 ?a10 ?l10 ?e10 ?k10 ?a11 ?l11 ?e11 ?k11 ?a12 ?l12 ?e12 ?k12 ?a13 ?l13 ?e13 ?k13 ?a14 ?l14 ?e14 ?k14 ?a15 ?l15 ?e15 ?k15 ?a16 ?l16 ?e16 ?k16 ?a17 ?l17 ?e17 ?k17 ?a18 ?l18 ?e18 ?k18 ?a19 ?l19 ?e19 ?k19 ?a20 ?l20 ?e20 ?k20 ?a21 ?l21 ?e21 ?k21 ?a22 ?l22 ?e22 ?k22 ?a23 ?l23 ?e23 ?k23 ?a24 ?l24 ?e24 ?k24 ?a25 ?l25 ?e25 ?k25 ?a26 ?l26 ?e26 ?k26 ?a27 ?l27 ?e27 ?k27 ?a28 ?l28 ?e28 ?k28 ?a29 ?l29 ?e29 ?k29 ?a30 ?l30 ?e30 ?k30 ?a31 ?l31 ?e31 ?k31 ?a32 ?l32 ?e32 ?k32 ?a33 ?l33 ?e33 ?k33 ?a34 ?l34 ?e34 ?k34 ?a35 ?l35 ?e35 ?k35 ?a36 ?l36 ?e36 ?k36 ?a37 ?l37 ?e37 ?k37 ?a38 ?l38 ?e38 ?k38 ?a39 ?l39 ?e39 ?k39 ?a40 ?l40 ?e40 ?k40 ?a41 ?l41 ?e41 ?k41 ?a42 ?l42 ?e42 ?k42 ?a43 ?l43 ?e43 ?k43 ?a44 ?l44 ?e44 ?k44 ?a45 ?l45 ?e45 ?k45 ?a46 ?l46 ?e46 ?k46 ?a47 ?l47 ?e47 ?k47 ?a48 ?l48 ?e48 ?k48 ?a49 ?l49 ?e49 ?k49
    (case bstr => k_is)
    (case bisinstance => k_is)
    (case blen => k_is)
    (case ball => k_is)
    (case btuple => k_is)
    (case benumerate => k_is)
    (case bint => k_is)
    (case bbool => k_is)
    (case bzip => k_is)
    (case bsorted => k_is)
    (case brange => k_is)
    (case bsum => k_is)
    (case bmin => k_is)
    (case bmax => k_is)
    (case brepr => k_is)
    (case bdict => k_is)
    (case babs => k_is)
    (case gMOST_LETTERS => k_is)
    (case gLETTERS => k_is)
    (case gMOST_WORD => k_is)
    (case gPLAIN => k_is)
    (case mNUMBERS => k_is)
    (case lNUMBERS => k_is)
    (case sNUMBERS => exact rfl)
    (case hNUMBERS0h => exact rfl)
    (case hNUMBERS1h => exact rfl)
    (case hNUMBERS2h => exact rfl)
    (case hNUMBERS3h => exact rfl)
    (case mONES => k_is)
    (case lONES => k_is)
    (case lONES0 => k_is)
    (case lONES1 => k_is)
    (case lONES2 => k_is)
    (case lONES3 => k_is)
    (case lONES4 => k_is)
    (case sONES => exact rfl)
    (case hONES0h => exact rfl)
    (case hONES1h => exact rfl)
    (case hONES2h => exact rfl)
    (case hONES3h => exact rfl)
    (case hONES4h => exact rfl)
    (case aMirrors => k_is)
    (case pgMirrors => k_is)
    (case hdMirrors => k_is)
    (case poMirrors => k_is)
    (case saMirrors => k_is)
    (case kcMirrors => k_is)
    (case naMirrorssize => k_is)
    (case naMirrorsangles => k_is)
    (case is1 => k_is)
    (case is2 => k_is)
    (case is3 => k_is)
    (case is4 => k_is)
    (case is5 => k_is)
    (case is6 => k_is)
    (case is7int => k_is)
    (case is7str => k_is)
    (case is7bool => k_is)
    (case is7tuple => k_is)
    (case is7list => k_is)
    (case is7dict => k_is)
    (case is8NoneType => k_is)
    (case is8bool => k_is)
    (case is8int => k_is)
    (case is8str => k_is)
    (case is8tuple => k_is)
    (case is8list => k_is)
    (case is8dict => k_is)
    (case a0 => k_is)
    (case l0 => k_is)
    (case e0 => k_is)
    (case k0 => k_is)
    (case a1 => k_is)
    (case l1 => k_is)
    (case e1 => k_is)
    (case k1 => k_is)
    (case a2 => k_is)
    (case l2 => k_is)
    (case e2 => k_is)
    (case k2 => k_is)
    (case a3 => k_is)
    (case l3 => k_is)
    (case e3 => k_is)
    (case k3 => k_is)
    (case a4 => k_is)
    (case l4 => k_is)
    (case e4 => k_is)
    (case k4 => k_is)
    (case a5 => k_is)
    (case l5 => k_is)
    (case e5 => k_is)
    (case k5 => k_is)
    (case a6 => k_is)
    (case g6 => k_is)
    (case t6 => k_is)
    (case l6 => k_is)
    (case e6 => k_is)
    (case k6 => k_is)
    (case a7 => k_is)
    (case g7 => k_is)
    (case t7 => k_is)
    (case r7e => k_is)
    (case n7 => k_is)
    (case l7 => k_is)
    (case e7 => k_is)
    (case k7 => k_is)
    (case a8 => k_is)
    (case l8 => k_is)
    (case e8 => k_is)
    (case k8 => k_is)
    (case a9 => k_is)
    (case g9 => k_is)
    (case t9 => k_is)
    (case r9e => k_is)
    (case l9 => k_is)
    (case e9 => k_is)
    (case k9 => k_is)
    (case a10 => k_is)
    (case l10 => k_is)
    (case e10 => k_is)
    (case k10 => k_is)
    (case a11 => k_is)
    (case l11 => k_is)
    (case e11 => k_is)
    (case k11 => k_is)
    (case a12 => k_is)
    (case l12 => k_is)
    (case e12 => k_is)
    (case k12 => k_is)
    (case a13 => k_is)
    (case l13 => k_is)
    (case e13 => k_is)
    (case k13 => k_is)
    (case a14 => k_is)
    (case l14 => k_is)
    (case e14 => k_is)
    (case k14 => k_is)
    (case a15 => k_is)
    (case l15 => k_is)
    (case e15 => k_is)
    (case k15 => k_is)
    (case a16 => k_is)
    (case l16 => k_is)
    (case e16 => k_is)
    (case k16 => k_is)
    (case a17 => k_is)
    (case l17 => k_is)
    (case e17 => k_is)
    (case k17 => k_is)
    (case a18 => k_is)
    (case l18 => k_is)
    (case e18 => k_is)
    (case k18 => k_is)
    (case a19 => k_is)
    (case l19 => k_is)
    (case e19 => k_is)
    (case k19 => k_is)
    (case a20 => k_is)
    (case l20 => k_is)
    (case e20 => k_is)
    (case k20 => k_is)
    (case a21 => k_is)
    (case l21 => k_is)
    (case e21 => k_is)
    (case k21 => k_is)
    (case a22 => k_is)
    (case l22 => k_is)
    (case e22 => k_is)
    (case k22 => k_is)
    (case a23 => k_is)
    (case l23 => k_is)
    (case e23 => k_is)
    (case k23 => k_is)
    (case a24 => k_is)
    (case l24 => k_is)
    (case e24 => k_is)
    (case k24 => k_is)
    (case a25 => k_is)
    (case l25 => k_is)
    (case e25 => k_is)
    (case k25 => k_is)
    (case a26 => k_is)
    (case l26 => k_is)
    (case e26 => k_is)
    (case k26 => k_is)
    (case a27 => k_is)
    (case l27 => k_is)
    (case e27 => k_is)
    (case k27 => k_is)
    (case a28 => k_is)
    (case l28 => k_is)
    (case e28 => k_is)
    (case k28 => k_is)
    (case a29 => k_is)
    (case l29 => k_is)
    (case e29 => k_is)
    (case k29 => k_is)
    (case a30 => k_is)
    (case l30 => k_is)
    (case e30 => k_is)
    (case k30 => k_is)
    (case a31 => k_is)
    (case l31 => k_is)
    (case e31 => k_is)
    (case k31 => k_is)
    (case a32 => k_is)
    (case l32 => k_is)
    (case e32 => k_is)
    (case k32 => k_is)
    (case a33 => k_is)
    (case l33 => k_is)
    (case e33 => k_is)
    (case k33 => k_is)
    (case a34 => k_is)
    (case l34 => k_is)
    (case e34 => k_is)
    (case k34 => k_is)
    (case a35 => k_is)
    (case l35 => k_is)
    (case e35 => k_is)
    (case k35 => k_is)
    (case a36 => k_is)
    (case l36 => k_is)
    (case e36 => k_is)
    (case k36 => k_is)
    (case a37 => k_is)
    (case l37 => k_is)
    (case e37 => k_is)
    (case k37 => k_is)
    (case a38 => k_is)
    (case l38 => k_is)
    (case e38 => k_is)
    (case k38 => k_is)
    (case a39 => k_is)
    (case l39 => k_is)
    (case e39 => k_is)
    (case k39 => k_is)
    (case a40 => k_is)
    (case l40 => k_is)
    (case e40 => k_is)
    (case k40 => k_is)
    (case a41 => k_is)
    (case l41 => k_is)
    (case e41 => k_is)
    (case k41 => k_is)
    (case a42 => k_is)
    (case l42 => k_is)
    (case e42 => k_is)
    (case k42 => k_is)
    (case a43 => k_is)
    (case l43 => k_is)
    (case e43 => k_is)
    (case k43 => k_is)
    (case a44 => k_is)
    (case l44 => k_is)
    (case e44 => k_is)
    (case k44 => k_is)
    (case a45 => k_is)
    (case l45 => k_is)
    (case e45 => k_is)
    (case k45 => k_is)
    (case a46 => k_is)
    (case l46 => k_is)
    (case e46 => k_is)
    (case k46 => k_is)
    (case a47 => k_is)
    (case l47 => k_is)
    (case e47 => k_is)
    (case k47 => k_is)
    (case a48 => k_is)
    (case l48 => k_is)
    (case e48 => k_is)
    (case k48 => k_is)
    (case a49 => k_is)
    (case l49 => k_is)
    (case e49 => k_is)
    (case k49 => k_is)
