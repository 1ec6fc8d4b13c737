import PyProof.Rows.All
import Wide.All
import OpenK.AllK
import Wide.FinOn
import PySem.Challenge.RW_sa0155_03
open PySem PySem.W PyProof.Rows
set_option Elab.async false
set_option autoImplicit false
set_option linter.all false
set_option genSizeOf false
set_option genInjectivity false
set_option maxRecDepth 100000
set_option maxHeartbeats 8000000

section
namespace Mn
inductive D where
  | non | boo (b : Bool) | int (i : Int) | str (s : List Nat) | tup (l : List D) | lst (l : List D)
deriving Inhabited
abbrev Fz := Addr → Option Obj
noncomputable def Fz.Sub (F F' : Fz) : Prop := ∀ a o, F a = some o → F' a = some o
theorem Fz.Sub.refl (F : Fz) : F.Sub F := fun _ _ e => e
theorem Fz.Sub.trans {F F' F'' : Fz} (x : F.Sub F') (y : F'.Sub F'') : F.Sub F'' := fun a o e => y a o (x a o e)
mutual
inductive DR (F : Fz) : D → Value → Prop
  | non : DR F .non .none
  | boo (b : Bool) : DR F (.boo b) (.bool b)
  | int (i : Int) (t : Tok) : DR F (.int i) (.int i t)
  | str (s : List Nat) (t : Tok) : DR F (.str s) (.str ⟨s.toArray⟩ t)
  | tup {l : List D} {a : Addr} {o : Obj} {vs : List Value} {n : Nat} : F a = some o → o.cls = .type "tuple" → o.data = .seq vs.toArray n → DRs F l vs → DR F (.tup l) (.ref a)
  | lst {l : List D} {a : Addr} {o : Obj} {vs : List Value} {n : Nat} : F a = some o → o.cls = .type "list" → o.data = .seq vs.toArray n → DRs F l vs → DR F (.lst l) (.ref a)
inductive DRs (F : Fz) : List D → List Value → Prop
  | nil : DRs F [] []
  | cons {d : D} {v : Value} {l : List D} {vs : List Value} : DR F d v → DRs F l vs → DRs F (d :: l) (v :: vs)
end
mutual
theorem DR.mono {F F' : Fz} (S : F.Sub F') : ∀ {d : D} {v : Value}, DR F d v → DR F' d v
  | _, _, .non => .non
  | _, _, .boo b => .boo b
  | _, _, .int i t => .int i t
  | _, _, .str s t => .str s t
  | _, _, .tup h c e r => .tup (S _ _ h) c e (DRs.mono S r)
  | _, _, .lst h c e r => .lst (S _ _ h) c e (DRs.mono S r)
theorem DRs.mono {F F' : Fz} (S : F.Sub F') : ∀ {l : List D} {vs : List Value}, DRs F l vs → DRs F' l vs
  | _, _, .nil => .nil
  | _, _, .cons a b => .cons (DR.mono S a) (DRs.mono S b)
end
theorem DRs.length {F : Fz} : ∀ {l : List D} {vs : List Value}, DRs F l vs → l.length = vs.length
  | _, _, .nil => rfl
  | _, _, .cons _ b => by simp [b.length]
theorem DRs.append {F : Fz} : ∀ {l l' : List D} {vs vs' : List Value}, DRs F l vs → DRs F l' vs' → DRs F (l ++ l') (vs ++ vs')
  | _, _, _, _, .nil, h => h
  | _, _, _, _, .cons a b, h => .cons a (b.append h)
theorem DRs.get {F : Fz} : ∀ {l : List D} {vs : List Value}, DRs F l vs → ∀ (i : Nat) (d : D), l[i]? = some d → ∃ v, vs[i]? = some v ∧ DR F d v
  | _, _, .nil, i, d, h => by simp at h
  | _, _, .cons a b, 0, d, h => by simp at h; subst h; exact ⟨_, rfl, a⟩
  | _, _, .cons a b, i + 1, d, h => by simp at h; obtain ⟨v, e, r⟩ := b.get i d h; exact ⟨v, by simpa using e, r⟩
theorem DRs.get' {F : Fz} : ∀ {l : List D} {vs : List Value}, DRs F l vs → ∀ (i : Nat) (v : Value), vs[i]? = some v → ∃ d, l[i]? = some d ∧ DR F d v
  | _, _, .nil, i, d, h => by simp at h
  | _, _, .cons a b, 0, d, h => by simp at h; subst h; exact ⟨_, rfl, a⟩
  | _, _, .cons a b, i + 1, d, h => by simp at h; obtain ⟨v, e, r⟩ := b.get' i d h; exact ⟨v, by simpa using e, r⟩
theorem DRs.reverse {F : Fz} : ∀ {l : List D} {vs : List Value}, DRs F l vs → DRs F l.reverse vs.reverse
  | _, _, .nil => .nil
  | _, _, .cons a b => by simp only [List.reverse_cons]; exact b.reverse.append (.cons a .nil)
theorem DRs.take {F : Fz} : ∀ {l : List D} {vs : List Value} (n : Nat), DRs F l vs → DRs F (l.take n) (vs.take n)
  | _, _, 0, _ => by simp only [List.take_zero]; exact .nil
  | _, _, n + 1, .nil => by simp only [List.take_nil]; exact .nil
  | _, _, n + 1, .cons a b => by simp only [List.take_succ_cons]; exact .cons a (b.take n)
theorem DRs.drop {F : Fz} : ∀ {l : List D} {vs : List Value} (n : Nat), DRs F l vs → DRs F (l.drop n) (vs.drop n)
  | _, _, 0, h => h
  | _, _, n + 1, .nil => by simp only [List.drop_nil]; exact .nil
  | _, _, n + 1, .cons a b => by simp only [List.drop_succ_cons]; exact b.drop n
inductive AV where
  | d (x : D) | ob (n : Nat) | own (l : List D)
deriving Inhabited
abbrev SA := Addr × Addr
noncomputable def sAddrs (α : List SA) : List Addr := α.flatMap fun p => [p.1, p.2]
theorem mem_sAddrs {α : List SA} {a : Addr} : a ∈ sAddrs α ↔ ∃ p ∈ α, a = p.1 ∨ a = p.2 := by
  unfold sAddrs
  simp [List.mem_flatMap]
theorem sAddrs_append (α β : List SA) : sAddrs (α ++ β) = sAddrs α ++ sAddrs β := by simp [sAddrs]
noncomputable def VR (F : Fz) (α : List SA) : AV → Value → Prop
  | .d x, v => DR F x v
  | .ob n, v => ∃ p, α[n]? = some p ∧ v = .ref p.1
  | .own _, _ => False
theorem get_prefix {α β : List SA} {n : Nat} {p : SA} (h : α[n]? = some p) : (α ++ β)[n]? = some p := by
  rw [List.getElem?_append_left (List.getElem?_eq_some_iff.mp h).1]; exact h
theorem VR.mono {F F' : Fz} {α β : List SA} (S : F.Sub F') : ∀ {av : AV} {v : Value}, VR F α av v → VR F' (α ++ β) av v
  | .d _, _, h => DR.mono S h
  | .ob _, _, ⟨p, h, e⟩ => ⟨p, get_prefix h, e⟩
  | .own _, _, h => h.elim
inductive VRs (F : Fz) (α : List SA) : List AV → List Value → Prop
  | nil : VRs F α [] []
  | cons {d : AV} {v : Value} {l : List AV} {vs : List Value} : VR F α d v → VRs F α l vs → VRs F α (d :: l) (v :: vs)
theorem VRs.mono {F F' : Fz} {α β : List SA} (S : F.Sub F') : ∀ {l : List AV} {vs : List Value}, VRs F α l vs → VRs F' (α ++ β) l vs
  | _, _, .nil => .nil
  | _, _, .cons a b => .cons (VR.mono S a) (b.mono S)
theorem VRs.length {F : Fz} {α : List SA} : ∀ {l : List AV} {vs : List Value}, VRs F α l vs → l.length = vs.length
  | _, _, .nil => rfl
  | _, _, .cons _ b => by simp [b.length]
inductive AO where
  | lst (l : List D)
  | d0
  | dS (es : List (List Nat × D))
  | dI (es : List (Int × D))
  | dP (es : List (List Int × D))
  | ins (c : Nat) (fs : List (Nat × AV))
deriving Inhabited
structure FnI where
  addr : Addr
  gname : String
  qual : Str
  scope : Scope
  params : Arguments
  body : List Stmt
  ns : List String
  npar : Nat
  defs : List D
structure Pg where
  gtab : List (String × D)
  fns : List FnI
  clss : List Addr
  clsN : List String
  flds : List String
  mths : List String
  mtab : List (List (Nat × Nat))
  inits : List Nat
noncomputable def Pg.fld (P : Pg) (f : Nat) : Str := Str.ofString (P.flds.getD f "")
section
variable (P : Pg)
inductive FieldsR (F : Fz) (α : List SA) : List (Nat × AV) → List DictEntry → Prop
  | nil : FieldsR F α [] []
  | cons {f : Nat} {av : AV} {fs : List (Nat × AV)} {e : DictEntry} {es : List DictEntry} : f < P.flds.length → e.key.isStr (P.fld f) = true → VR F α av e.val → FieldsR F α fs es → FieldsR F α ((f, av) :: fs) (e :: es)
theorem FieldsR.mono {F F' : Fz} {α β : List SA} (S : F.Sub F') : ∀ {l : List (Nat × AV)} {vs : List DictEntry}, FieldsR P F α l vs → FieldsR P F' (α ++ β) l vs
  | _, _, .nil => .nil
  | _, _, .cons z a b c => .cons z a (VR.mono S b) (c.mono S)
end
noncomputable def sKey (s : List Nat) : Str := ⟨s.toArray⟩
theorem sKey_inj {a b : List Nat} (h : sKey a = sKey b) : a = b := by
  have := congrArg (fun s : Str => s.cps.toList) h
  simpa [sKey] using this
inductive KV {κ κ' : Type} (F : Fz) (f : κ → κ') : List (κ × D) → List (κ' × Value) → Prop
  | nil : KV F f [] []
  | cons {k : κ} {d : D} {v : Value} {es : List (κ × D)} {kvs : List (κ' × Value)} : DR F d v → KV F f es kvs → KV F f ((k, d) :: es) ((f k, v) :: kvs)
theorem KV.mono {κ κ' : Type} {F F' : Fz} {f : κ → κ'} (S : F.Sub F') : ∀ {es : List (κ × D)} {kvs : List (κ' × Value)}, KV F f es kvs → KV F' f es kvs
  | _, _, .nil => .nil
  | _, _, .cons a b => .cons (DR.mono S a) (b.mono S)
inductive KVH (F : Fz) : List (List Int × D) → List (List Int × Addr × Value) → Prop
  | nil : KVH F [] []
  | cons {k : List Int} {d : D} {a : Addr} {v : Value} {es : List (List Int × D)} {kvs : List (List Int × Addr × Value)} : DR F (.tup (k.map .int)) (.ref a) → DR F d v → KVH F es kvs → KVH F ((k, d) :: es) ((k, a, v) :: kvs)
theorem KVH.mono {F F' : Fz} (S : F.Sub F') : ∀ {es : List (List Int × D)} {kvs : List (List Int × Addr × Value)}, KVH F es kvs → KVH F' es kvs
  | _, _, .nil => .nil
  | _, _, .cons x a b => .cons (DR.mono S x) (DR.mono S a) (b.mono S)
structure Wd where
  prog : Program
  w : World
  B : Heap
  K : Frag
  mg : Str → Option Value
  mb : Str → Option Value
  P : Pg
  lim : Nat
variable (Γ : Wd)
abbrev iKind := intKind Γ.prog Γ.w
abbrev tKind := tupleKind (intKind Γ.prog Γ.w)
noncomputable def listAt (h : Heap) (a : Addr) (vs : List Value) : Prop := ∃ n, h.get? a = some { cls := .type "list", data := .seq vs.toArray n }
noncomputable def AOR (F : Fz) (α : List SA) (h : Heap) (p : SA) : AO → Prop
  | .lst l => p.1 = p.2 ∧ ∃ vs, listAt h p.1 vs ∧ DRs F l vs
  | .d0 => p.1 = p.2 ∧ (p.1 == sysModules) = false ∧ ∃ n, h.get? p.1 = some { cls := .type "dict", data := .dict #[] n }
  | .dS es => p.1 = p.2 ∧ (p.1 == sysModules) = false ∧ ∃ kvs, h.DictOf (strKind Γ.prog Γ.w) p.1 kvs ∧ KV F sKey es kvs
  | .dI es => p.1 = p.2 ∧ (p.1 == sysModules) = false ∧ ∃ kvs, h.DictOf (intKind Γ.prog Γ.w) p.1 kvs ∧ KV F id es kvs
  | .dP es => p.1 = p.2 ∧ (p.1 == sysModules) = false ∧ ∃ xs, h.DictOfH (tupleKind (intKind Γ.prog Γ.w)) p.1 xs ∧ KVH F es xs
  | .ins c fs => p.1 ≠ p.2 ∧ ∃ C, Γ.P.clss[c]? = some C ∧ h.get? p.1 = some (instObj C p.2) ∧ ∃ es n, h.get? p.2 = some (dictOf es n) ∧ FieldsR Γ.P F α fs es
noncomputable def SDisj (α : List SA) : Prop := α.Pairwise fun p q => p.1 ≠ q.1 ∧ p.1 ≠ q.2 ∧ p.2 ≠ q.1 ∧ p.2 ≠ q.2
structure Inv (F : Fz) (α : List SA) (st : List AO) (h : Heap) : Prop where
  agree : ∀ a o, F a = some o → h.get? a = some o
  base : ∀ a o, Γ.B.get? a = some o → F a = some o
  len : α.length = st.length
  rep : ∀ (i : Nat) (p : SA) (ao : AO), α[i]? = some p → st[i]? = some ao → AOR Γ F α h p ao
  nof : ∀ a ∈ sAddrs α, F a = none
  low : ∀ a ∈ sAddrs α, ∃ o, h.get? a = some o
  disj : SDisj α
structure Ext (X : Addr → Prop) (F : Fz) (α : List SA) (h : Heap) (F' : Fz) (α' : List SA) (h' : Heap) : Prop where
  sub : F.Sub F'
  pre : ∃ β, α' = α ++ β ∧ ∀ p ∈ β, h.get? p.1 = none ∧ h.get? p.2 = none
  keep : ∀ a o, h.get? a = some o → a ∉ sAddrs α → ¬ X a → h'.get? a = some o ∧ F' a = F a
  stay : ∀ a o, h.get? a = some o → ∃ o', h'.get? a = some o'
abbrev NoX : Addr → Prop := fun _ => False
abbrev ExtE := Ext NoX
variable {X : Addr → Prop}
theorem Ext.refl (F : Fz) (α : List SA) (h : Heap) : Ext X F α h F α h := ⟨.refl F, ⟨[], by simp, by simp⟩, fun _ _ e _ _ => ⟨e, rfl⟩, fun _ o e => ⟨o, e⟩⟩
theorem not_mem_ext {α β : List SA} {h : Heap} {a : Addr} {o : Obj} (ha : h.get? a = some o) (hm : a ∉ sAddrs α) (hβ : ∀ p ∈ β, h.get? p.1 = none ∧ h.get? p.2 = none) : a ∉ sAddrs (α ++ β) := by
  rw [sAddrs_append, List.mem_append, not_or]
  refine ⟨hm, fun hm => ?_⟩
  obtain ⟨p, hp, e⟩ := mem_sAddrs.mp hm
  have := hβ p hp
  rcases e with rfl | rfl
  · rw [this.1] at ha; cases ha
  · rw [this.2] at ha; cases ha
theorem Ext.transX {Y : Addr → Prop} {F F' F'' : Fz} {α α' α'' : List SA} {h h' h'' : Heap} (x : Ext X F α h F' α' h') (y : Ext Y F' α' h' F'' α'' h'') (hY : ∀ a o, h.get? a = some o → Y a → X a) : Ext X F α h F'' α'' h'' := by
  obtain ⟨β, rfl, hβ⟩ := x.pre
  obtain ⟨γ, rfl, hγ⟩ := y.pre
  have none_of : ∀ a, h'.get? a = none → h.get? a = none := fun a e => by
    cases e' : h.get? a with
    | none => rfl
    | some o => obtain ⟨o', h2⟩ := x.stay a o e'; rw [e] at h2; cases h2
  refine ⟨x.sub.trans y.sub, ⟨β ++ γ, by simp, fun p hp => ?_⟩, fun a o ha hm hX => ?_, fun a o ha => ?_⟩
  · rcases List.mem_append.mp hp with hp | hp
    · exact hβ p hp
    · exact ⟨none_of _ (hγ p hp).1, none_of _ (hγ p hp).2⟩
  · obtain ⟨e1, e2⟩ := x.keep a o ha hm hX
    obtain ⟨e3, e4⟩ := y.keep a o e1 (not_mem_ext ha hm hβ) (fun hy => hX (hY a o ha hy))
    exact ⟨e3, e4.trans e2⟩
  · obtain ⟨o', h1⟩ := x.stay a o ha
    exact y.stay a o' h1
theorem Ext.trans {F F' F'' : Fz} {α α' α'' : List SA} {h h' h'' : Heap} (x : Ext X F α h F' α' h') (y : Ext X F' α' h' F'' α'' h'') : Ext X F α h F'' α'' h'' := x.transX y fun _ _ _ h => h
theorem Ext.weak {Y : Addr → Prop} {F F' : Fz} {α α' : List SA} {h h' : Heap} (x : Ext Y F α h F' α' h') (hY : ∀ a o, h.get? a = some o → Y a → X a) : Ext X F α h F' α' h' := (Ext.refl F α h).transX x hY
theorem Ext.ofE {F F' : Fz} {α α' : List SA} {h h' : Heap} (x : ExtE F α h F' α' h') : Ext X F α h F' α' h' := x.weak fun _ _ _ h => h.elim
theorem Ext.vr {F F' : Fz} {α α' : List SA} {h h' : Heap} (x : Ext X F α h F' α' h') {av : AV} {v : Value} (r : VR F α av v) : VR F' α' av v := by
  obtain ⟨β, rfl, _⟩ := x.pre
  exact r.mono x.sub
theorem Ext.vrs {F F' : Fz} {α α' : List SA} {h h' : Heap} (x : Ext X F α h F' α' h') {av : List AV} {v : List Value} (r : VRs F α av v) : VRs F' α' av v := by
  obtain ⟨β, rfl, _⟩ := x.pre
  exact r.mono x.sub
theorem AOR.mono {F F' : Fz} {α β : List SA} {h h' : Heap} {p : SA} (S : F.Sub F') (hA : ∀ a o, F' a = some o → h'.get? a = some o) (h1 : ∀ o, h.get? p.1 = some o → h'.get? p.1 = some o) (h2 : ∀ o, h.get? p.2 = some o → h'.get? p.2 = some o) :
    ∀ {ao : AO}, AOR Γ F α h p ao → AOR Γ F' (α ++ β) h' p ao
  | .lst _, ⟨e, vs, ⟨o, ho⟩, q⟩ => ⟨e, vs, ⟨o, h1 _ ho⟩, q.mono S⟩
  | .d0, ⟨e, m, n, ho⟩ => ⟨e, m, n, h1 _ ho⟩
  | .dS _, ⟨e, m, kvs, ⟨o, es, ep, ho, r⟩, q⟩ => ⟨e, m, kvs, ⟨o, es, ep, h1 _ ho, r⟩, q.mono S⟩
  | .dI _, ⟨e, m, kvs, ⟨o, es, ep, ho, r⟩, q⟩ => ⟨e, m, kvs, ⟨o, es, ep, h1 _ ho, r⟩, q.mono S⟩
  | .dP _, ⟨e, m, xs, ⟨o, es, ep, ho, a, b, c, d, f⟩, q⟩ => by
    refine ⟨e, m, xs, ⟨o, es, ep, h1 _ ho, a, b, c, ?_, f⟩, q.mono S⟩
    clear c f
    induction q with
    | nil => intro x hx; cases hx
    | @cons k dd a' v es' kvs' hk hv hr ih =>
      intro x hx
      rcases List.mem_cons.mp hx with rfl | hx
      · cases hk with
        | @tup _ _ ko vs n g1 g2 g3 g4 =>
          refine ⟨ko, vs.toArray, n, hA _ _ (S _ _ g1), g2, g3, ?_⟩
          show ItemsAre _ k vs
          clear hx g3 d ih
          induction k generalizing vs with
          | nil => cases g4; exact .nil
          | cons i k ih =>
            cases g4 with
            | cons a b =>
              cases a
              exact .cons (by simp [intKind, Value.isInt]) (ih b)
      · exact ih (fun x hx => d x (List.mem_cons_of_mem _ hx)) x hx
  | .ins _ _, ⟨e, C, hc, ho, es, n, hd, r⟩ => ⟨e, C, hc, h1 _ ho, es, n, h2 _ hd, r.mono Γ.P S⟩
end Mn
end
section
namespace Mn
inductive BO where | add | sub | mod | fdiv | pow
noncomputable def BO.op : BO → Operator | .add => .Add | .sub => .Sub | .mod => .Mod | .fdiv => .FloorDiv | .pow => .Pow
inductive BI where | int | len | chr | ord | str | abs | min | tuple
noncomputable def BI.val : BI → Value | .int => .type "int" | .str => .type "str" | .tuple => .type "tuple" | .len => .builtin "len" | .chr => .builtin "chr" | .ord => .builtin "ord" | .abs => .builtin "abs" | .min => .builtin "min"
noncomputable def BI.name : BI → String | .int => "int" | .len => "len" | .chr => "chr" | .ord => "ord" | .str => "str" | .abs => "abs" | .min => "min" | .tuple => "tuple"
inductive MB where | append | pop | reverse | get | join | split | startswith
noncomputable def MB.tp : MB → String | .append => "list" | .pop => "list" | .reverse => "list" | .get => "dict" | .join => "str" | .split => "str" | .startswith => "str"
noncomputable def MB.id : MB → String | .append => "list.append" | .pop => "list.pop" | .reverse => "list.reverse" | .get => "dict.get" | .join => "str.join" | .split => "str.split" | .startswith => "str.startswith"
noncomputable def MB.name : MB → String | .append => "append" | .pop => "pop" | .reverse => "reverse" | .get => "get" | .join => "join" | .split => "split" | .startswith => "startswith"
inductive E0 where
  | met (o x : String) (m : Nat) (op ap xp p : Pos)
  | cal (f : Nat) (x : String) (cs : List (String × Pos)) (np xp p : Pos)
noncomputable def E0.x : E0 → String
  | .met _ x .. => x
  | .cal _ x .. => x
noncomputable def E0.caps : E0 → List String
  | .met o .. => [o]
  | .cal _ _ cs .. => cs.map (·.1)
mutual
inductive X where
  | loc (i : Nat) (p : Pos)
  | gv (k : Nat) (p : Pos)
  | cint (n : Int) (k : Nat) (p : Pos)
  | cstr (s : String) (k : Nat) (p : Pos)
  | cnon (k : Nat) (p : Pos)
  | cboo (b : Bool) (k : Nat) (p : Pos)
  | neg (a : X) (p : Pos)
  | not (a : X) (p : Pos)
  | bin (o : BO) (a b : X) (p : Pos)
  | cmp (o : CmpOp) (a b : X) (p : Pos)
  | bool (o : BoolOp) (as : Xs) (p : Pos)
  | ite (t a b : X) (p : Pos)
  | tup (as : Xs) (k : Nat) (p : Pos)
  | lst (as : Xs) (p : Pos)
  | newl (p : Pos)
  | newls (as : Xs) (p : Pos)
  | newd (p : Pos)
  | att (a : X) (f : Nat) (p : Pos)
  | idx (a i : X) (p : Pos)
  | slcTo (a hi : X) (sp p : Pos)
  | slcFrom (a lo : X) (sp p : Pos)
  | cal (f : Nat) (as : Xs) (np p : Pos)
  | new (c : Nat) (as : Xs) (np p : Pos)
  | bi (b : BI) (as : Xs) (np p : Pos)
  | met (a : X) (m : Nat) (as : Xs) (ap p : Pos)
  | mb (a : X) (m : MB) (as : Xs) (ap p : Pos)
  | jrev (a l : X) (ap np cp p : Pos)
  | comp (e : E0) (it : X) (ci : List Nat) (tp : Pos) (sc : Scope) (p : Pos)
inductive Xs where
  | nil
  | cons (x : X) (r : Xs)
end
inductive IK where | over | range (np p : Pos) | rev (np p : Pos)
inductive Tg where
  | nm (i : Nat) (p : Pos)
  | tp (is : List (Nat × Pos)) (k : Nat) (p : Pos)
mutual
inductive S where
  | asg (t : Tg) (x : X) (p : Pos)
  | asgA (a : X) (f : Nat) (x : X) (pt p : Pos)
  | asgI (a k x : X) (pt p : Pos)
  | delI (a k : X) (pt p : Pos)
  | exp (x : X) (p : Pos)
  | iff (t : X) (a b : Ss) (p : Pos)
  | whl (t : X) (b : Ss) (p : Pos)
  | for_ (t : Tg) (k : IK) (x : X) (b : Ss) (p : Pos)
  | ret (x : X) (p : Pos)
  | pas (p : Pos)
  | brk (p : Pos)
  | con (p : Pos)
  | ownN (i : Nat) (pt pl p : Pos)
  | ownA (i : Nat) (x : X) (pn ap pc p : Pos)
  | frz (i : Nat)
  | bad (s : Stmt)
inductive Ss where
  | nil
  | cons (s : S) (r : Ss)
end
section
variable (P : Pg) (ns : List String)
noncomputable def toE0 : E0 → PySem.Expr
  | .met o x m op ap xp p => .Call (.Attribute (.Name (Str.ofString o) op) (Str.ofString (P.mths.getD m "")) ap) [.Name (Str.ofString x) xp] [] p
  | .cal f x cs np xp p => .Call (.Name (Str.ofString ((P.fns.map (·.gname)).getD f "")) np) (.Name (Str.ofString x) xp :: cs.map fun q => .Name (Str.ofString q.1) q.2) [] p
noncomputable def nmE (i : Nat) (p : Pos) : PySem.Expr := .Name (Str.ofString (ns.getD i "")) p
mutual
noncomputable def toE : X → PySem.Expr
  | .loc i p => nmE ns i p
  | .gv k p => .Name (Str.ofString ((P.gtab.map (·.1)).getD k "")) p
  | .cint n k p => .Constant (.int n) k p
  | .cstr s k p => .Constant (.str (Str.ofString s)) k p
  | .cnon k p => .Constant .none k p
  | .cboo b k p => .Constant (.bool b) k p
  | .neg a p => .UnaryOp .USub (toE a) p
  | .not a p => .UnaryOp .Not (toE a) p
  | .bin o a b p => .BinOp (toE a) o.op (toE b) p
  | .cmp o a b p => .Compare (toE a) [o] [toE b] p
  | .bool o as p => .BoolOp o (toEs as) p
  | .ite t a b p => .IfExp (toE t) (toE a) (toE b) p
  | .tup as k p => .Tuple (toEs as) k p
  | .lst as p => .List (toEs as) p
  | .newl p => .List [] p
  | .newls as p => .List (toEs as) p
  | .newd p => .Dict [] [] p
  | .att a f p => .Attribute (toE a) (P.fld f) p
  | .idx a i p => .Subscript (toE a) (toE i) p
  | .slcTo a hi sp p => .Subscript (toE a) (.Slice none (some (toE hi)) none sp) p
  | .slcFrom a lo sp p => .Subscript (toE a) (.Slice (some (toE lo)) none none sp) p
  | .cal f as np p => .Call (.Name (Str.ofString ((P.fns.map (·.gname)).getD f "")) np) (toEs as) [] p
  | .new c as np p => .Call (.Name (Str.ofString (P.clsN.getD c "")) np) (toEs as) [] p
  | .bi b as np p => .Call (.Name (Str.ofString b.name) np) (toEs as) [] p
  | .met a m as ap p => .Call (.Attribute (toE a) (Str.ofString (P.mths.getD m "")) ap) (toEs as) [] p
  | .mb a m as ap p => .Call (.Attribute (toE a) (Str.ofString m.name) ap) (toEs as) [] p
  | .jrev a l ap np cp p => .Call (.Attribute (toE a) (Str.ofString "join") ap) [.Call (.Name (Str.ofString "reversed") np) [toE l] [] cp] [] p
  | .comp e it _ tp sc p => .ListComp (toE0 P e) [⟨.Name (Str.ofString e.x) tp, toE it, [], 0⟩] sc p
noncomputable def toEs : Xs → List PySem.Expr
  | .nil => []
  | .cons x r => toE x :: toEs r
end
noncomputable def toT : Tg → PySem.Expr
  | .nm i p => nmE ns i p
  | .tp is k p => .Tuple (is.map fun q => nmE ns q.1 q.2) k p
noncomputable def toIt : IK → X → PySem.Expr
  | .over, x => toE P ns x
  | .range np p, x => .Call (.Name (Str.ofString "range") np) [toE P ns x] [] p
  | .rev np p, x => .Call (.Name (Str.ofString "reversed") np) [toE P ns x] [] p
mutual
noncomputable def toS : S → List Stmt
  | .asg t x p => [.Assign [toT ns t] (toE P ns x) p]
  | .asgA a f x pt p => [.Assign [.Attribute (toE P ns a) (P.fld f) pt] (toE P ns x) p]
  | .asgI a k x pt p => [.Assign [.Subscript (toE P ns a) (toE P ns k) pt] (toE P ns x) p]
  | .delI a k pt p => [.Delete [.Subscript (toE P ns a) (toE P ns k) pt] p]
  | .exp x p => [.Expr (toE P ns x) p]
  | .iff t a b p => [.If (toE P ns t) (toSs a) (toSs b) p]
  | .whl t b p => [.While (toE P ns t) (toSs b) [] p]
  | .for_ t k x b p => [.For (toT ns t) (toIt P ns k x) (toSs b) [] p]
  | .ret x p => [.Return (some (toE P ns x)) p]
  | .pas p => [.Pass p]
  | .brk p => [.Break p]
  | .con p => [.Continue p]
  | .ownN i pt pl p => [.Assign [nmE ns i pt] (.List [] pl) p]
  | .ownA i x pn ap pc p => [.Expr (.Call (.Attribute (nmE ns i pn) (Str.ofString "append") ap) [toE P ns x] [] pc) p]
  | .frz _ => []
  | .bad s => [s]
noncomputable def toSs : Ss → List Stmt
  | .nil => []
  | .cons s r => toS s ++ toSs r
end
end
noncomputable def big : Nat := 2 ^ 24
noncomputable def codes (s : String) : List Nat := (Str.ofString s).cps.toList
inductive TrR (st : List AO) : AV → Bool → Prop
  | non : TrR st (.d .non) false
  | boo (b : Bool) : TrR st (.d (.boo b)) b
  | int (i : Int) : TrR st (.d (.int i)) (i != 0)
  | str {s : List Nat} (h : s.length ≤ big) : TrR st (.d (.str s)) (!s.isEmpty)
  | tup {l : List D} (h : l.length ≤ big) : TrR st (.d (.tup l)) (!l.isEmpty)
  | lst {l : List D} (h : l.length ≤ big) : TrR st (.d (.lst l)) (!l.isEmpty)
  | ob {n : Nat} {l : List D} (o : st[n]? = some (.lst l)) (h : l.length ≤ big) : TrR st (.ob n) (!l.isEmpty)
  | own {l : List D} (h : l.length ≤ big) : TrR st (.own l) (!l.isEmpty)
noncomputable def trW (st : List AO) (v : AV) (K : Bool → Prop) : Prop := match v with
  | .d (.boo b) => K b
  | v => ∃ b, TrR st v b ∧ K b
inductive FE : D → D → Bool → Prop
  | nn : FE .non .non true
  | bb (a b : Bool) : FE (.boo a) (.boo b) (a == b)
  | ii (a b : Int) : FE (.int a) (.int b) (a == b)
  | ss (a b : List Nat) : FE (.str a) (.str b) (a == b)
  | ni (b : Int) : FE .non (.int b) false
  | ns (b : List Nat) : FE .non (.str b) false
  | nt (b : List D) : FE .non (.tup b) false
  | in_ (a : Int) : FE (.int a) .non false
  | sn (a : List Nat) : FE (.str a) .non false
  | tn (a : List D) : FE (.tup a) .non false
  | is_ (a : Int) (b : List Nat) : FE (.int a) (.str b) false
  | si (a : List Nat) (b : Int) : FE (.str a) (.int b) false
  | it (a : Int) (b : List D) : FE (.int a) (.tup b) false
  | ti (a : List D) (b : Int) : FE (.tup a) (.int b) false
inductive LE1 : List D → List D → Bool → Prop
  | nn : LE1 [] [] true
  | nc (a : D) (l : List D) : LE1 [] (a :: l) false
  | cn (a : D) (l : List D) : LE1 (a :: l) [] false
  | cc {a b : D} {l m : List D} {x y : Bool} (h : FE a b x) (r : LE1 l m y) : LE1 (a :: l) (b :: m) (x && y)
inductive TE : D → D → Bool → Prop
  | flat {a b : D} {x : Bool} (h : FE a b x) : TE a b x
  | tup {l m : List D} {x : Bool} (h : LE1 l m x) : TE (.tup l) (.tup m) x
inductive IE (x : D) : List D → Bool → Prop
  | nil : IE x [] false
  | cons {y : D} {l : List D} {a b : Bool} (h : TE y x a) (r : IE x l b) : IE x (y :: l) (a || b)
noncomputable def isNon : D → Bool
  | .non => true
  | _ => false
inductive CD : CmpOp → D → D → Bool → Prop
  | lt (x y : Int) : CD .Lt (.int x) (.int y) (decide (x < y))
  | le (x y : Int) : CD .LtE (.int x) (.int y) (decide (x ≤ y))
  | gt (x y : Int) : CD .Gt (.int x) (.int y) (decide (y < x))
  | ge (x y : Int) : CD .GtE (.int x) (.int y) (decide (y ≤ x))
  | eq {x y : D} {b : Bool} (h : TE x y b) : CD .Eq x y b
  | ne {x y : D} {b : Bool} (h : TE x y b) : CD .NotEq x y (!b)
  | is_ (x : D) : CD .Is x .non (isNon x)
  | isN (x : D) : CD .IsNot x .non (!isNon x)
  | inT {x : D} {l : List D} {b : Bool} (h : IE x l b) : CD .In x (.tup l) b
  | inL {x : D} {l : List D} {b : Bool} (h : IE x l b) : CD .In x (.lst l) b
  | niL {x : D} {l : List D} {b : Bool} (h : IE x l b) : CD .NotIn x (.lst l) (!b)
  | inS (c : Nat) (y : List Nat) : CD .In (.str [c]) (.str y) (y.contains c)
noncomputable def aget {κ : Type} [DecidableEq κ] : List (κ × D) → κ → Option D
  | [], _ => none
  | (k, d) :: r, x => if k = x then some d else aget r x
noncomputable def aput {κ : Type} [DecidableEq κ] : List (κ × D) → κ → D → List (κ × D)
  | [], x, d => [(x, d)]
  | (k, e) :: r, x, d => if k = x then (k, d) :: r else (k, e) :: aput r x d
noncomputable def adel {κ : Type} [DecidableEq κ] (l : List (κ × D)) (x : κ) : List (κ × D) := l.filter fun kv => decide (kv.1 ≠ x)
inductive DG : AO → D → Option D → Prop
  | s0 (k : List Nat) : DG .d0 (.str k) none
  | i0 (k : Int) : DG .d0 (.int k) none
  | t0 (k : List Int) : DG .d0 (.tup (k.map .int)) none
  | s (es : List (List Nat × D)) (k : List Nat) : DG (.dS es) (.str k) (aget es k)
  | i (es : List (Int × D)) (k : Int) : DG (.dI es) (.int k) (aget es k)
  | t (es : List (List Int × D)) (k : List Int) : DG (.dP es) (.tup (k.map .int)) (aget es k)
inductive DS : AO → D → D → AO → Prop
  | s0 (k : List Nat) (d : D) : DS .d0 (.str k) d (.dS [(k, d)])
  | i0 (k : Int) (d : D) : DS .d0 (.int k) d (.dI [(k, d)])
  | t0 (k : List Int) (d : D) : DS .d0 (.tup (k.map .int)) d (.dP [(k, d)])
  | s {es : List (List Nat × D)} (k : List Nat) (d : D) (h : es.length ≤ big) : DS (.dS es) (.str k) d (.dS (aput es k d))
  | i {es : List (Int × D)} (k : Int) (d : D) (h : es.length ≤ big) : DS (.dI es) (.int k) d (.dI (aput es k d))
  | t {es : List (List Int × D)} (k : List Int) (d : D) (h : es.length ≤ big) : DS (.dP es) (.tup (k.map .int)) d (.dP (aput es k d))
inductive CA (st : List AO) : CmpOp → AV → AV → Bool → Prop
  | d {op : CmpOp} {x y : D} {b : Bool} (h : CD op x y b) : CA st op (.d x) (.d y) b
  | inD {x : D} {n : Nat} {o : AO} {r : Option D} (h : st[n]? = some o) (g : DG o x r) : CA st .In (.d x) (.ob n) r.isSome
  | is_ (n : Nat) : CA st .Is (.ob n) (.d .non) false
  | isN (n : Nat) : CA st .IsNot (.ob n) (.d .non) true
inductive BinR : BO → AV → AV → AV → Prop
  | add (x y : Int) : BinR .add (.d (.int x)) (.d (.int y)) (.d (.int (x + y)))
  | sub (x y : Int) : BinR .sub (.d (.int x)) (.d (.int y)) (.d (.int (x - y)))
  | mod {x y : Int} (h : y ≠ 0) : BinR .mod (.d (.int x)) (.d (.int y)) (.d (.int (x.fmod y)))
  | fdiv {x y : Int} (h : y ≠ 0 ∧ y.natAbs < 1073741824) : BinR .fdiv (.d (.int x)) (.d (.int y)) (.d (.int (x.fdiv y)))
  | pow : BinR .pow (.d (.int 10)) (.d (.int 18)) (.d (.int 1000000000000000000))
  | addS {x y : List Nat} (h : x.length + y.length ≤ big) : BinR .add (.d (.str x)) (.d (.str y)) (.d (.str (x ++ y)))
  | addL {x y : List D} (h : x.length + y.length ≤ big) : BinR .add (.d (.lst x)) (.d (.lst y)) (.d (.lst (x ++ y)))
noncomputable def pyIdx (k : Int) (n : Nat) : Option Nat := seqIndex? k n
noncomputable def idxL (l : List D) (k : Int) (d : D) : Prop := k.natAbs < 2 ^ 32 ∧ (pyIdx k l.length).bind (l[·]?) = some d
inductive IdxR (st : List AO) : AV → AV → AV → Prop
  | tup {l : List D} {k : Int} {d : D} (h : idxL l k d) : IdxR st (.d (.tup l)) (.d (.int k)) (.d d)
  | lst {l : List D} {k : Int} {d : D} (h : idxL l k d) : IdxR st (.d (.lst l)) (.d (.int k)) (.d d)
  | ob {n : Nat} {l : List D} {k : Int} {d : D} (o : st[n]? = some (.lst l)) (h : idxL l k d) : IdxR st (.ob n) (.d (.int k)) (.d d)
  | str {s : List Nat} {k : Int} {c : Nat} (hk : k.natAbs < 2 ^ 32) (h : (pyIdx k s.length).bind (s[·]?) = some c) : IdxR st (.d (.str s)) (.d (.int k)) (.d (.str [c]))
inductive ToR : AV → AV → AV → Prop
  | lst {l : List D} {k : Int} (h : 0 ≤ k ∧ k.natAbs < 2 ^ 32 ∧ l.length ≤ big) : ToR (.d (.lst l)) (.d (.int k)) (.d (.lst (l.take k.toNat)))
inductive FromR : AV → AV → AV → Prop
  | str {s : List Nat} {k : Int} (h : 0 ≤ k ∧ k.natAbs < 2 ^ 32 ∧ s.length ≤ big) : FromR (.d (.str s)) (.d (.int k)) (.d (.str (s.drop k.toNat)))
noncomputable def joinN (sep : List Nat) : List (List Nat) → List Nat
  | [] => []
  | [x] => x
  | x :: r => x ++ sep ++ joinN sep r
inductive BiR (st : List AO) : BI → List AV → AV → Prop
  | int (n : Int) : BiR st .int [.d (.int n)] (.d (.int n))
  | lenS {s : List Nat} (h : s.length ≤ big) : BiR st .len [.d (.str s)] (.d (.int s.length))
  | lenL {l : List D} (h : l.length ≤ big) : BiR st .len [.d (.lst l)] (.d (.int l.length))
  | lenT {l : List D} (h : l.length ≤ big) : BiR st .len [.d (.tup l)] (.d (.int l.length))
  | lenO {n : Nat} {l : List D} (o : st[n]? = some (.lst l)) (h : l.length ≤ big) : BiR st .len [.ob n] (.d (.int l.length))
  | chr {n : Int} (h : 0 ≤ n ∧ n.natAbs < 256) : BiR st .chr [.d (.int n)] (.d (.str [n.toNat]))
  | ord (c : Nat) : BiR st .ord [.d (.str [c])] (.d (.int c))
  | str {n : Int} (h : n.natAbs < 10 ^ 10) : BiR st .str [.d (.int n)] (.d (.str (codes (toString n))))
  | abs (n : Int) : BiR st .abs [.d (.int n)] (.d (.int n.natAbs))
  | min (x y : Int) : BiR st .min [.d (.int x), .d (.int y)] (.d (.int (if y < x then y else x)))
  | tuple {l : List D} (h : l.length ≤ big) : BiR st .tuple [.d (.lst l)] (.d (.tup l))
noncomputable def MB.isL : MB → Bool | .append => true | .pop => true | .reverse => true | _ => false
noncomputable def MB.isS : MB → Bool | .join => true | .split => true | .startswith => true | _ => false
inductive MbT (st : List AO) : MB → AV → Prop
  | lst {n : Nat} {l : List D} {m : MB} (o : st[n]? = some (.lst l)) (h : m.isL = true) : MbT st m (.ob n)
  | get {n : Nat} {d : D} {o : AO} {r : Option D} (h : st[n]? = some o) (g : DG o d r) : MbT st .get (.ob n)
  | str {s : List Nat} {m : MB} (h : m.isS = true) : MbT st m (.d (.str s))
inductive MbR (st : List AO) : MB → AV → List AV → AV → List AO → Prop
  | append {n : Nat} {l : List D} (x : D) (o : st[n]? = some (.lst l)) (h : l.length ≤ big) : MbR st .append (.ob n) [.d x] (.d .non) (st.set n (.lst (l ++ [x])))
  | pop {n : Nat} {l : List D} {x : D} (o : st[n]? = some (.lst l)) (h : l.length ≤ big) (g : l.getLast? = some x) : MbR st .pop (.ob n) [] (.d x) (st.set n (.lst l.dropLast))
  | reverse {n : Nat} {l : List D} (o : st[n]? = some (.lst l)) (h : l.length ≤ big) : MbR st .reverse (.ob n) [] (.d .non) (st.set n (.lst l.reverse))
  | startswith (x y : List Nat) : MbR st .startswith (.d (.str x)) [.d (.str y)] (.d (.boo (decide (y.length ≤ x.length) && x.take y.length == y))) st
  | get {n : Nat} {o : AO} {k : D} {r : Option D} (h : st[n]? = some o) (g : DG o k r) : MbR st .get (.ob n) [.d k] (.d (r.getD .non)) st
  | getE {n : Nat} {o : AO} {k : D} {r : Option D} (e : D) (h : st[n]? = some o) (g : DG o k r) : MbR st .get (.ob n) [.d k, .d e] (.d (r.getD e)) st
  | join {n : Nat} {ss : List (List Nat)} (sep : List Nat) (o : st[n]? = some (.lst (ss.map .str))) (h : (ss.map (·.length)).sum + ss.length * sep.length ≤ 2 ^ 24) : MbR st .join (.d (.str sep)) [.ob n] (.d (.str (joinN sep ss))) st
inductive JrR : AV → AV → AV → Prop
  | mk {ss : List (List Nat)} (sep : List Nat) (h : ss.length ≤ big) (g : (ss.reverse.map (·.length)).sum + ss.length * sep.length ≤ 2 ^ 24) : JrR (.d (.str sep)) (.d (.lst (ss.map .str))) (.d (.str (joinN sep ss.reverse)))
inductive ItR : IK → AV → List D → Prop
  | lst {l : List D} (h : l.length ≤ big) : ItR .over (.d (.lst l)) l
  | tup {l : List D} (h : l.length ≤ big) : ItR .over (.d (.tup l)) l
  | str {s : List Nat} (h : s.length ≤ big) : ItR .over (.d (.str s)) (s.map fun c => .str [c])
  | range {n : Int} {np p : Pos} (h : n.natAbs ≤ 2 ^ 24) : ItR (.range np p) (.d (.int n)) ((List.range n.toNat).map fun i => .int (Int.ofNat i))
  | rev {l : List D} {np p : Pos} (h : l.length ≤ big) : ItR (.rev np p) (.d (.lst l)) l.reverse
abbrev Vars := List (Option AV)
inductive Fl where | nx | bk | ct | rt (v : AV)
abbrev CallT := Nat → List AV → List AO → (AV → List AO → Prop) → Prop
noncomputable def finX (c : Bool) (Q : AV → List AO → Prop) : AV → List AO → Prop :=
  match c with
  | true => fun v st => trW st v fun b => Q (.d (.boo b)) st
  | false => Q
noncomputable def stp : BoolOp → Bool | .And => false | .Or => true
section
variable (P : Pg) (C N : CallT)
noncomputable def insOf (st : List AO) : AV → Option (Nat × List (Nat × AV))
  | .ob n => match st[n]? with | some (.ins c fs) => some (c, fs) | _ => none
  | _ => none
noncomputable def fget : List (Nat × AV) → Nat → Option AV
  | [], _ => none
  | (f, v) :: r, x => if f = x then some v else fget r x
noncomputable def fput : List (Nat × AV) → Nat → AV → List (Nat × AV)
  | [], x, v => [(x, v)]
  | (f, e) :: r, x, v => if f = x then (f, v) :: r else (f, e) :: fput r x v
noncomputable def mthOf (c m : Nat) : Option Nat := (P.mtab[c]?).bind (·.lookup m)
noncomputable def wp0 : E0 → D → List AV → List AO → (AV → List AO → Prop) → Prop
  | .met _ _ m _ _ _ _, d, [o], st, Q => match insOf st o with
    | some (k, _) => (match mthOf P k m with | some f => C f [o, .d d] st Q | none => False)
    | none => False
  | .met .., _, _, _, _ => False
  | .cal f _ _ _ _ _, d, cv, st, Q => C f (.d d :: cv) st Q
noncomputable def compW (b : D → List AO → (AV → List AO → Prop) → Prop) : List D → List D → List AO → (List D → List AO → Prop) → Prop
  | [], acc, st, Q => Q acc st
  | d :: r, acc, st, Q => b d st fun v st => match v with | .d y => compW b r (acc ++ [y]) st Q | _ => False
noncomputable def capsOf (vs : Vars) : List Nat → Option (List AV)
  | [] => some []
  | i :: r => match vs.getD i none, capsOf vs r with
    | some (.d x), some l => some (.d x :: l)
    | some (.ob n), some l => some (.ob n :: l)
    | _, _ => none
mutual
noncomputable def wpX : X → Bool → Vars → List AO → (AV → List AO → Prop) → Prop
  | .loc i _, c, vs, st, Q => match vs.getD i none with
    | some (.own l) => c = true ∧ finX c Q (.own l) st
    | some v => finX c Q v st
    | none => False
  | .gv k _, c, _, st, Q => match (P.gtab.map (·.2))[k]? with | some d => finX c Q (.d d) st | none => False
  | .cint n _ _, c, _, st, Q => finX c Q (.d (.int n)) st
  | .cstr s _ _, c, _, st, Q => finX c Q (.d (.str (codes s))) st
  | .cnon _ _, c, _, st, Q => finX c Q (.d .non) st
  | .cboo b _ _, c, _, st, Q => finX c Q (.d (.boo b)) st
  | .neg a _, c, vs, st, Q => wpX a false vs st fun v st => match v with | .d (.int n) => finX c Q (.d (.int (-n))) st | _ => False
  | .not a _, true, vs, st, Q => wpX a true vs st fun v st => match v with | .d (.boo b) => Q (.d (.boo (!b))) st | _ => False
  | .not a _, false, vs, st, Q => wpX a false vs st fun v st => trW st v fun b => Q (.d (.boo (!b))) st
  | .bin o a b _, c, vs, st, Q => wpX a false vs st fun x st => wpX b false vs st fun y st => ∃ r, BinR o x y r ∧ finX c Q r st
  | .cmp o a b _, c, vs, st, Q => wpX a false vs st fun x st => wpX b false vs st fun y st => ∃ r, CA st o x y r ∧ Q (.d (.boo r)) st
  | .bool o as _, c, vs, st, Q => wpB o as c vs st Q
  | .ite t a b _, c, vs, st, Q => wpX t true vs st fun v st => match v with | .d (.boo x) => if x = true then wpX a c vs st Q else wpX b c vs st Q | _ => False
  | .tup as _ _, c, vs, st, Q => wpDs as vs st fun l st => l.length ≤ big ∧ finX c Q (.d (.tup l)) st
  | .lst as _, c, vs, st, Q => wpDs as vs st fun l st => l.length ≤ big ∧ finX c Q (.d (.lst l)) st
  | .newl _, c, _, st, Q => finX c Q (.ob st.length) (st ++ [.lst []])
  | .newls as _, c, vs, st, Q => wpDs as vs st fun l st => l.length ≤ big ∧ finX c Q (.ob st.length) (st ++ [.lst l])
  | .newd _, c, _, st, Q => finX c Q (.ob st.length) (st ++ [.d0])
  | .att a f _, c, vs, st, Q => wpX a false vs st fun v st => match insOf st v with | some (_, fs) => (match fget fs f with | some r => finX c Q r st | none => False) | none => False
  | .idx a i _, c, vs, st, Q => wpX a false vs st fun x st => wpX i false vs st fun y st => ∃ r, IdxR st x y r ∧ finX c Q r st
  | .slcTo a i _ _, c, vs, st, Q => wpX a false vs st fun x st => wpX i false vs st fun y st => ∃ r, ToR x y r ∧ finX c Q r st
  | .slcFrom a i _ _, c, vs, st, Q => wpX a false vs st fun x st => wpX i false vs st fun y st => ∃ r, FromR x y r ∧ finX c Q r st
  | .cal f as _ _, c, vs, st, Q => wpXs as vs st fun l st => C f l st (finX c Q)
  | .new k as _ _, c, vs, st, Q => wpXs as vs st fun l st => N k l st (finX c Q)
  | .bi b as _ _, c, vs, st, Q => wpXs as vs st fun l st => ∃ r, BiR st b l r ∧ finX c Q r st
  | .met a m as _ _, c, vs, st, Q => wpX a false vs st fun v st => match insOf st v with
    | some (k, _) => (match mthOf P k m with | some f => wpXs as vs st fun l st => C f (v :: l) st (finX c Q) | none => False)
    | none => False
  | .mb a m as _ _, c, vs, st, Q => wpX a false vs st fun v st => MbT st m v ∧ wpXs as vs st fun l st => ∃ r st', MbR st m v l r st' ∧ finX c Q r st'
  | .jrev a l _ _ _ _, c, vs, st, Q => wpX a false vs st fun x st => wpX l false vs st fun y st => ∃ r, JrR x y r ∧ finX c Q r st
  | .comp e it ci _ _ _, c, vs, st, Q => wpX it false vs st fun v st => ∃ l cv, ItR .over v l ∧ capsOf vs ci = some cv ∧ compW (fun d st Q => wp0 P C e d cv st Q) l [] st fun ys st => finX c Q (.d (.lst ys)) st
noncomputable def wpB : BoolOp → Xs → Bool → Vars → List AO → (AV → List AO → Prop) → Prop
  | _, .nil, _, _, _, _ => False
  | o, .cons x r, c, vs, st, Q => match r with
    | .nil => wpX x c vs st Q
    | .cons _ _ => wpX x c vs st fun v st => trW st v fun b => if b = stp o then Q v st else wpB o r c vs st Q
noncomputable def wpXs : Xs → Vars → List AO → (List AV → List AO → Prop) → Prop
  | .nil, _, st, Q => Q [] st
  | .cons x r, vs, st, Q => wpX x false vs st fun v st => wpXs r vs st fun l st => Q (v :: l) st
noncomputable def wpDs : Xs → Vars → List AO → (List D → List AO → Prop) → Prop
  | .nil, _, st, Q => Q [] st
  | .cons x r, vs, st, Q => wpX x false vs st fun v st => match v with | .d y => wpDs r vs st fun l st => Q (y :: l) st | _ => False
end
noncomputable def setT : Tg → AV → Vars → Option Vars
  | .nm i _, v, vs => if i < vs.length then some (vs.set i (some v)) else none
  | .tp is _ _, .d (.tup l), vs => if is.length = l.length then
      (is.zip l).foldlM (fun (vs : Vars) (q : (Nat × Pos) × D) => if q.1.1 < vs.length then some (vs.set q.1.1 (some (.d q.2))) else none) vs else none
  | _, _, _ => none
noncomputable def loopW (t : Vars → List AO → (AV → List AO → Prop) → Prop) (b : Vars → List AO → (Fl → Vars → List AO → Prop) → Prop) : Nat → Vars → List AO → (Fl → Vars → List AO → Prop) → Prop
  | 0, _, _, _ => False
  | n + 1, vs, st, Q => t vs st fun v st => match v with
    | .d (.boo true) => b vs st fun fl vs st => match fl with
      | .nx => loopW t b n vs st Q
      | .ct => loopW t b n vs st Q
      | .bk => Q .nx vs st
      | .rt v => Q (.rt v) vs st
    | .d (.boo false) => Q .nx vs st
    | _ => False
noncomputable def loopF (t : Tg) (b : Vars → List AO → (Fl → Vars → List AO → Prop) → Prop) : List D → Vars → List AO → (Fl → Vars → List AO → Prop) → Prop
  | [], vs, st, Q => Q .nx vs st
  | x :: r, vs, st, Q => match setT t (.d x) vs with
    | some vs => b vs st fun fl vs st => match fl with
      | .nx => loopF t b r vs st Q
      | .ct => loopF t b r vs st Q
      | .bk => Q .nx vs st
      | .rt v => Q (.rt v) vs st
    | none => False
mutual
noncomputable def wpS : S → Vars → List AO → (Fl → Vars → List AO → Prop) → Prop
  | .asg t x _, vs, st, Q => wpX P C N x false vs st fun v st => match setT t v vs with | some vs => Q .nx vs st | none => False
  | .asgA a f x _ _, vs, st, Q => wpX P C N x false vs st fun v st => wpX P C N a false vs st fun o st => ∃ n c fs, o = .ob n ∧ st[n]? = some (.ins c fs) ∧ fs.length ≤ 900 ∧ Q .nx vs (st.set n (.ins c (fput fs f v)))
  | .asgI a k x _ _, vs, st, Q => wpX P C N x false vs st fun v st => wpX P C N a false vs st fun o st => wpX P C N k false vs st fun k st => ∃ n k' v' o1 o2, o = .ob n ∧ k = .d k' ∧ v = .d v' ∧ st[n]? = some o1 ∧ DS o1 k' v' o2 ∧ Q .nx vs (st.set n o2)
  | .delI a k _ _, vs, st, Q => wpX P C N a false vs st fun o st => wpX P C N k false vs st fun k st => ∃ n k' es, o = .ob n ∧ k = .d (.int k') ∧ st[n]? = some (.dI es) ∧ es.length ≤ big ∧ (aget es k').isSome = true ∧ Q .nx vs (st.set n (.dI (adel es k')))
  | .exp x _, vs, st, Q => wpX P C N x false vs st fun _ st => Q .nx vs st
  | .iff t a b _, vs, st, Q => wpX P C N t true vs st fun v st => match v with | .d (.boo x) => if x = true then wpSs a vs st Q else wpSs b vs st Q | _ => False
  | .whl t b _, vs, st, Q => ∃ n, loopW (fun vs st Q => wpX P C N t true vs st Q) (fun vs st Q => wpSs b vs st Q) n vs st Q
  | .for_ t k x b _, vs, st, Q => wpX P C N x false vs st fun v st => ∃ l, ItR k v l ∧ loopF t (fun vs st Q => wpSs b vs st Q) l vs st Q
  | .ret x _, vs, st, Q => wpX P C N x false vs st fun v st => Q (.rt v) vs st
  | .pas _, vs, st, Q => Q .nx vs st
  | .brk _, vs, st, Q => Q .bk vs st
  | .con _, vs, st, Q => Q .ct vs st
  | .ownN i _ _ _, vs, st, Q => i < vs.length ∧ Q .nx (vs.set i (some (.own []))) st
  | .ownA i x _ _ _ _, vs, st, Q => match vs.getD i none with
    | some (.own l) => wpX P C N x false vs st fun v st => match v with | .d x => l.length ≤ big ∧ Q .nx (vs.set i (some (.own (l ++ [x])))) st | _ => False
    | _ => False
  | .frz i, vs, st, Q => match vs.getD i none with | some (.own l) => Q .nx (vs.set i (some (.d (.lst l)))) st | _ => False
  | .bad _, _, _, _ => False
noncomputable def wpSs : Ss → Vars → List AO → (Fl → Vars → List AO → Prop) → Prop
  | .nil, vs, st, Q => Q .nx vs st
  | .cons s r, vs, st, Q => wpS s vs st fun fl vs st => match fl with
    | .nx => wpSs r vs st Q
    | .bk => Q .bk vs st
    | .ct => Q .ct vs st
    | .rt v => Q (.rt v) vs st
end
end
end Mn
end
section
namespace Mn
noncomputable def nameAt (env : Env) (h : Heap) (x : Str) (v : Value) : Prop :=
  (env.kindOf x = some .local ∧ ∃ m, h.Ns env.locals m ∧ m x = some v) ∨
  ((env.kindOf x = some .cell ∨ env.kindOf x = some .free) ∧ ∃ c, env.cells.lookup x = some c ∧ h.IsCell c (some v))
noncomputable def fpOf (env : Env) : List Addr := env.locals :: env.cells.map (·.2)
structure EOK (env : Env) (ns : List String) : Prop where
  kind : env.scope.kind = .function
  gl : env.globals = mainGlobals
  bt : env.builtins = builtinsNs
  nd : (ns.map Str.ofString).Nodup
  dbg : ∀ x ∈ ns, (Str.ofString x == ("__debug__" : Str)) = false ∧ (Str.ofString x == ("__classdict__" : Str)) = false
  cn : (fpOf env).Nodup
  inter : interactive env = false
noncomputable def VRo (F : Fz) (α : List SA) (h : Heap) (a : Addr) : AV → Value → Prop
  | .own l, v => v = .ref a ∧ ∃ vs, listAt h a vs ∧ DRs F l vs
  | av, v => VR F α av v
theorem VRo.d {F : Fz} {α : List SA} {h : Heap} {a : Addr} {x : D} {v : Value} (r : VRo F α h a (.d x) v) : DR F x v := r
noncomputable def isOwn : AV → Bool
  | .own _ => true
  | _ => false
structure Frm (F : Fz) (α : List SA) (env : Env) (ns : List String) (vars : Vars) (oa : Nat → Addr) (h : Heap) : Prop where
  hn : ∃ m, h.Ns env.locals m
  len : vars.length = ns.length
  at_ : ∀ (i : Nat) (x : String) (av : AV), ns[i]? = some x → vars[i]? = some (some av) → ∃ v, nameAt env h (Str.ofString x) v ∧ VRo F α h (oa i) av v
  fp : ∀ a ∈ fpOf env, F a = none ∧ a ∉ sAddrs α ∧ ∃ o, h.get? a = some o
  own : ∀ (i : Nat) (l : List D), vars[i]? = some (some (.own l)) → F (oa i) = none ∧ oa i ∉ sAddrs α ∧ oa i ∉ fpOf env
  oinj : ∀ (i j : Nat) (l m : List D), vars[i]? = some (some (.own l)) → vars[j]? = some (some (.own m)) → i ≠ j → oa i ≠ oa j
  cells : ∀ c ∈ env.cells.map (·.2), ∃ v, h.IsCell c v
theorem fp_locals (env : Env) : env.locals ∈ fpOf env := by unfold fpOf; exact List.mem_cons_self
theorem fp_cell {env : Env} {x : Str} {c : Addr} (h : env.cells.lookup x = some c) : c ∈ fpOf env := by
  unfold fpOf
  exact List.mem_cons_of_mem _ (List.mem_map.mpr ⟨(x, c), mem_of_lookup h, rfl⟩)
theorem nameAt.at {env : Env} {h h' : Heap} {x : Str} {v : Value} (n : nameAt env h x v) (k : ∀ a ∈ fpOf env, ∀ o, h.get? a = some o → h'.get? a = some o) : nameAt env h' x v := by
  rcases n with ⟨hk, m, ⟨o, es, ep, ho, r⟩, hm⟩ | ⟨hk, c, hc, o, ho, hd⟩
  · exact .inl ⟨hk, m, ⟨o, es, ep, k _ (fp_locals env) _ ho, r⟩, hm⟩
  · exact .inr ⟨hk, c, hc, o, k _ (fp_cell hc) _ ho, hd⟩
theorem own_lt {F : Fz} {α : List SA} {env : Env} {ns : List String} {vars : Vars} {oa : Nat → Addr} {h : Heap} (f : Frm F α env ns vars oa h) {i : Nat} {l : List D} (e : vars[i]? = some (some (.own l))) :
    ∃ x, ns[i]? = some x ∧ nameAt env h (Str.ofString x) (.ref (oa i)) ∧ ∃ vs, listAt h (oa i) vs ∧ DRs F l vs := by
  have hi : i < vars.length := (List.getElem?_eq_some_iff.mp e).1
  rw [f.len] at hi
  obtain ⟨v, hn, rfl, r⟩ := f.at_ i ns[i] _ (List.getElem?_eq_getElem hi) e
  exact ⟨_, List.getElem?_eq_getElem hi, hn, r⟩
theorem Frm.ext {F F' : Fz} {α α' : List SA} {env : Env} {ns : List String} {vars : Vars} {oa : Nat → Addr} {h h' : Heap} (f : Frm F α env ns vars oa h) (x : ExtE F α h F' α' h') : Frm F' α' env ns vars oa h' := by
  obtain ⟨β, rfl, hβ⟩ := x.pre
  have kp : ∀ a ∈ fpOf env, ∀ o, h.get? a = some o → h'.get? a = some o := fun a ha o e => (x.keep a o e (f.fp a ha).2.1 id).1
  have kF : ∀ a ∈ fpOf env, F' a = F a := fun a ha => let ⟨_, h2, o, e⟩ := f.fp a ha; (x.keep a o e h2 id).2
  have ko : ∀ (i : Nat) (l : List D), vars[i]? = some (some (.own l)) → (∀ o, h.get? (oa i) = some o → h'.get? (oa i) = some o) ∧ F' (oa i) = F (oa i) ∧ oa i ∉ sAddrs (α ++ β) := fun i l e => by
    obtain ⟨_, _, _, vs, ⟨n, hl⟩, _⟩ := own_lt f e
    have hm := (f.own i l e).2.1
    exact ⟨fun o e' => (x.keep _ o e' hm id).1, (x.keep _ _ hl hm id).2, not_mem_ext hl hm hβ⟩
  refine ⟨?_, f.len, fun i y av hy hv => ?_, fun a ha => ?_, fun i l e => ?_, f.oinj, fun c hc => ?_⟩
  · obtain ⟨m, o, es, ep, ho, r⟩ := f.hn
    exact ⟨m, o, es, ep, kp _ (fp_locals env) _ ho, r⟩
  · obtain ⟨v, hn, hr⟩ := f.at_ i y av hy hv
    refine ⟨v, hn.at kp, ?_⟩
    cases av with
    | d y => exact DR.mono x.sub hr
    | ob n => obtain ⟨p, hp, e⟩ := hr; exact ⟨p, get_prefix hp, e⟩
    | own l =>
      obtain ⟨e, vs, ⟨o, ho⟩, q⟩ := hr
      exact ⟨e, vs, ⟨o, (ko i l hv).1 _ ho⟩, q.mono x.sub⟩
  · obtain ⟨h1, h2, o, h3⟩ := f.fp a ha
    exact ⟨(kF a ha).trans h1, not_mem_ext h3 h2 hβ, o, kp a ha o h3⟩
  · obtain ⟨h1, h2, h3⟩ := f.own i l e
    exact ⟨(ko i l e).2.1.trans h1, (ko i l e).2.2, h3⟩
  · obtain ⟨v, o, ho, hd⟩ := f.cells c hc
    exact ⟨v, o, kp c (List.mem_cons_of_mem _ hc) _ ho, hd⟩
section
variable {M : Model} {A : Around} {E : Value → Shared → Prop} {s : Shared} {env : Env} {ns : List String}
theorem ld_name {x : Str} {p : Pos} {v : Value} {Q : Value → Shared → Prop} (hk : env.scope.kind = .function) (h1 : (x == ("__debug__" : Str)) = false) (h2 : (x == ("__classdict__" : Str)) = false) (n : nameAt env s.heap x v) (h : Q v s) :
    wpAny M A (eval (.Name x p) env) Q E s := by
  refine wpAny_Name ?_ h1
  rcases n with ⟨hl, m, hn, hm⟩ | ⟨hl | hl, c, hc, hv⟩
  · exact wpAny_loadName_local hk hl hn hm h
  · exact wpAny_loadName_cell hk hl hc hv h
  · exact wpAny_loadName_free hk hl hc hv h h2
theorem ld_var {F : Fz} {α : List SA} {vars : Vars} {oa : Nat → Addr} {i : Nat} {p : Pos} {av : AV} {Q : Value → Shared → Prop} (K : EOK env ns) (f : Frm F α env ns vars oa s.heap)
    (hv : vars.getD i none = some av) (h : ∀ v, VRo F α s.heap (oa i) av v → Q v s) : wpAny M A (eval (nmE ns i p) env) Q E s := by
  have hv' : vars[i]? = some (some av) := by
    rw [List.getD_eq_getElem?_getD] at hv
    cases e : vars[i]? with
    | none => rw [e] at hv; cases hv
    | some o => rw [e] at hv; simpa using hv
  have hi : i < ns.length := by rw [← f.len]; exact (List.getElem?_eq_some_iff.mp hv').1
  have hx : ns[i]? = some ns[i] := List.getElem?_eq_getElem hi
  obtain ⟨v, hn, hr⟩ := f.at_ i _ av hx hv'
  have d := K.dbg _ (List.getElem_mem hi)
  unfold nmE
  rw [List.getD_eq_getElem?_getD, hx]
  exact ld_name K.kind d.1 d.2 hn (h v hr)
theorem lookup_addr_ne {env : Env} (hc : (fpOf env).Nodup) {x y : Str} {c d : Addr} (hx : env.cells.lookup x = some c) (hy : env.cells.lookup y = some d) (hne : x ≠ y) : c ≠ d := by
  intro e
  subst e
  have hn : (env.cells.map (·.2)).Nodup := (List.nodup_cons.mp hc).2
  have : ∀ {l : List (Str × Addr)}, (l.map (·.2)).Nodup → ∀ {x y : Str}, (x, c) ∈ l → (y, c) ∈ l → x = y := by
    intro l
    induction l with
    | nil => intro _ x y h; cases h
    | cons q l ih =>
      intro hn x y h1 h2
      rw [List.map_cons, List.nodup_cons] at hn
      rcases List.mem_cons.mp h1 with e | h1 <;> rcases List.mem_cons.mp h2 with e' | h2
      · rw [← e] at e'; exact (Prod.mk.inj e').1.symm
      · exact absurd (List.mem_map.mpr ⟨_, h2, by rw [← e]⟩) hn.1
      · exact absurd (List.mem_map.mpr ⟨_, h1, by rw [← e']⟩) hn.1
      · exact ih hn.2 h1 h2
  exact hne (this hn (mem_of_lookup hx) (mem_of_lookup hy))
theorem cell_ne_locals {env : Env} (hc : (fpOf env).Nodup) {x : Str} {c : Addr} (hx : env.cells.lookup x = some c) : c ≠ env.locals := by
  rintro rfl
  exact (List.nodup_cons.mp hc).1 (List.mem_map.mpr ⟨_, mem_of_lookup hx, rfl⟩)
theorem st_name {x : Str} {v : Value} {Q : Unit → Shared → Prop} (hk : env.scope.kind = .function) (hc : (fpOf env).Nodup) (hL : ∃ m, s.heap.Ns env.locals m)
    (hcell : ∀ c ∈ env.cells.map (·.2), ∃ v, s.heap.IsCell c v)
    (hx : env.kindOf x = some .local ∨ (env.kindOf x = some .cell ∧ (env.cells.lookup x).isSome = true))
    (h : ∀ h' tk b, b ∈ fpOf env → Heap.SameBut b s.heap h' → nameAt env h' x v → (∀ y u, y ≠ x → nameAt env s.heap y u → nameAt env h' y u) → (∃ m, h'.Ns env.locals m) → (∀ c ∈ env.cells.map (·.2), ∃ v, h'.IsCell c v) → Q () { s with heap := h', toks := tk }) :
    wpAny M A (storeName env x v) Q E s := by
  rcases hx with hl | ⟨hl, hs⟩
  · obtain ⟨m, hn⟩ := hL
    refine wpAny_storeName_local hl hn (fun h' hn' hs' => h h' _ env.locals (fp_locals env) hs' (.inl ⟨hl, _, hn', by simp⟩) ?_ ⟨_, hn'⟩ ?_) (by rw [hk]; rfl)
    · rintro y u hy (⟨hk', m', hn'', hm'⟩ | ⟨hk', c, hc', hv⟩)
      · refine .inl ⟨hk', _, hn', ?_⟩
        rw [if_neg hy]
        obtain ⟨o, es, ep, ho, hd, hs1, hf⟩ := hn
        obtain ⟨o', es', ep', ho', hd', hs1', hf'⟩ := hn''
        rw [ho] at ho'; cases ho'
        rw [hd] at hd'; cases hd'
        rw [← hf, hf']; exact hm'
      · exact .inr ⟨hk', c, hc', hv.sameBut hs' (cell_ne_locals hc hc')⟩
    · intro c hcm
      obtain ⟨v, hv⟩ := hcell c hcm
      refine ⟨v, hv.sameBut hs' ?_⟩
      rintro rfl
      exact (List.nodup_cons.mp hc).1 hcm
  · obtain ⟨c, hc'⟩ := Option.isSome_iff_exists.mp hs
    obtain ⟨v₀, hv₀⟩ := hcell c (List.mem_map.mpr ⟨_, mem_of_lookup hc', rfl⟩)
    obtain ⟨m, hn⟩ := hL
    refine wpAny_storeName_cell hk hl hc' hv₀ fun h' hv' hs' => h h' s.toks c (fp_cell hc') hs' (.inr ⟨.inl hl, c, hc', hv'⟩) ?_ ⟨m, hn.sameBut hs' (cell_ne_locals hc hc').symm⟩ ?_
    · rintro y u hy (⟨hk', m', hn'', hm'⟩ | ⟨hk', d, hd', hv⟩)
      · exact .inl ⟨hk', m', hn''.sameBut hs' (cell_ne_locals hc hc').symm, hm'⟩
      · exact .inr ⟨hk', d, hd', hv.sameBut hs' (lookup_addr_ne hc hd' hc' hy)⟩
    · intro d hdm
      by_cases e : d = c
      · subst e; exact ⟨_, hv'⟩
      · obtain ⟨v, hv⟩ := hcell d hdm
        exact ⟨v, hv.sameBut hs' e⟩
end
end Mn
end
section
namespace Mn
noncomputable def Fz.put (F : Fz) (a : Addr) (o : Obj) : Fz := fun b => if b = a then some o else F b
theorem Fz.put_self (F : Fz) (a : Addr) (o : Obj) : F.put a o a = some o := by simp [Fz.put]
theorem Fz.put_ne (F : Fz) {a b : Addr} (o : Obj) (h : b ≠ a) : F.put a o b = F b := by simp [Fz.put, h]
theorem Fz.sub_put {F : Fz} {a : Addr} (o : Obj) (h : F a = none) : F.Sub (F.put a o) := fun b x e => by
  rw [Fz.put_ne _ _ (fun e' => by subst e'; rw [h] at e; cases e)]; exact e
section
variable {Γ : Wd} {F : Fz} {α : List SA} {st : List AO} {h h' : Heap}
theorem get_size (h : Heap) {a : Nat} (e : h.objs.size ≤ a) : h.get? a = none := by
  cases e' : h.get? a with
  | none => rfl
  | some o => have : @LT.lt Nat _ a h.objs.size := Heap.lt_size e'; omega
theorem Inv.fnone (I : Inv Γ F α st h) {a : Addr} (e : h.get? a = none) : F a = none := by
  cases e' : F a with
  | none => rfl
  | some o => rw [I.agree a o e'] at e; cases e
theorem Inv.anone (I : Inv Γ F α st h) {a : Addr} (e : h.get? a = none) : a ∉ sAddrs α := fun m => by
  obtain ⟨o, h1⟩ := I.low a m
  rw [h1] at e; cases e
theorem Inv.bkeep (I : Inv Γ F α st h) : ∀ b o, Γ.B.get? b = some o → h.get? b = some o := fun b o e => I.agree b o (I.base b o e)
theorem Inv.other (I : Inv Γ F α st h) (hF : ∀ a o, F a = some o → h'.get? a = some o) (hα : ∀ a ∈ sAddrs α, ∀ o, h.get? a = some o → h'.get? a = some o) : Inv Γ F α st h' := by
  refine ⟨hF, I.base, I.len, fun i p ao hp ho => ?_, I.nof, fun a ha => let ⟨o, e⟩ := I.low a ha; ⟨o, hα a ha o e⟩, I.disj⟩
  have := AOR.mono Γ (β := []) (.refl F) hF (hα _ (mem_sAddrs.mpr ⟨p, List.mem_of_getElem? hp, .inl rfl⟩)) (hα _ (mem_sAddrs.mpr ⟨p, List.mem_of_getElem? hp, .inr rfl⟩)) (I.rep i p ao hp ho)
  rwa [List.append_nil] at this
theorem Inv.sameBut (I : Inv Γ F α st h) {a : Addr} (hs : Heap.SameBut a h h') (hF : F a = none) (hα : a ∉ sAddrs α) : Inv Γ F α st h' :=
  I.other (fun b o e => (hs.2 b (fun e' => by subst e'; rw [hF] at e; cases e)).trans (I.agree b o e)) (fun b hb o e => (hs.2 b (fun e' => by subst e'; exact hα hb)).trans e)
theorem Inv.keeps (I : Inv Γ F α st h) (hk : ∀ b o, h.get? b = some o → h'.get? b = some o) : Inv Γ F α st h' := I.other (fun b o e => hk b o (I.agree b o e)) fun b _ o e => hk b o e
theorem ext_keeps (F : Fz) (α : List SA) {h h' : Heap} (hk : ∀ b o, h.get? b = some o → h'.get? b = some o) : ExtE F α h F α h' := ⟨.refl F, ⟨[], by simp, by simp⟩, fun a o e _ _ => ⟨hk a o e, rfl⟩, fun a o e => ⟨o, hk a o e⟩⟩
theorem Inv.pushAny (I : Inv Γ F α st h) (o : Obj) : Inv Γ F α st (h.push o) := I.keeps fun _ _ e => Heap.get?_push_of_some _ e
theorem Inv.freeze (I : Inv Γ F α st h) (o : Obj) (hf : o.isFreed = false) : Inv Γ (F.put h.objs.size o) α st (h.push o) ∧ ExtE F α h (F.put h.objs.size o) α (h.push o) := by
  have hg : h.get? h.objs.size = none := get_size h (Nat.le_refl _)
  have hn : F h.objs.size = none := I.fnone hg
  have J := I.pushAny o
  have S : F.Sub (F.put h.objs.size o) := Fz.sub_put o hn
  have ag : ∀ a o', (F.put h.objs.size o) a = some o' → (h.push o).get? a = some o' := fun a o' e => by
    by_cases ha : a = h.objs.size
    · subst ha; rw [Fz.put_self] at e; cases e; exact Heap.get?_push_size _ hf
    · rw [Fz.put_ne _ _ ha] at e; exact J.agree a o' e
  have ne : ∀ a o', h.get? a = some o' → a ≠ h.objs.size := fun a o' e e' => by subst e'; rw [hg] at e; cases e
  refine ⟨⟨ag, fun a o' e => S _ _ (I.base a o' e), I.len, fun i p ao hp ho => ?_, fun a ha => ?_, J.low, I.disj⟩, ⟨S, ⟨[], by simp, by simp⟩, fun a o' e _ _ => ⟨Heap.get?_push_of_some _ e, Fz.put_ne _ _ (ne a o' e)⟩, fun a o' e => ⟨o', Heap.get?_push_of_some _ e⟩⟩⟩
  · have := AOR.mono Γ (β := []) S ag (fun _ e => e) (fun _ e => e) (J.rep i p ao hp ho)
    rwa [List.append_nil] at this
  · obtain ⟨o', e⟩ := I.low a ha
    rw [Fz.put_ne _ _ (ne a o' e)]; exact I.nof a ha
theorem Inv.freezeOld (I : Inv Γ F α st h) {a : Addr} {o : Obj} (ho : h.get? a = some o) (hF : F a = none) (hα : a ∉ sAddrs α) : Inv Γ (F.put a o) α st h ∧ Ext (fun b => b = a) F α h (F.put a o) α h := by
  have S : F.Sub (F.put a o) := Fz.sub_put o hF
  have ag : ∀ b o', (F.put a o) b = some o' → h.get? b = some o' := fun b o' e => by
    by_cases hb : b = a
    · subst hb; rw [Fz.put_self] at e; cases e; exact ho
    · rw [Fz.put_ne _ _ hb] at e; exact I.agree b o' e
  refine ⟨⟨ag, fun a o' e => S _ _ (I.base a o' e), I.len, fun i p ao hp ho => ?_, fun b hb => ?_, I.low, I.disj⟩, ⟨S, ⟨[], by simp, by simp⟩, fun b o' e _ hx => ⟨e, Fz.put_ne _ _ hx⟩, fun b o' e => ⟨o', e⟩⟩⟩
  · have := AOR.mono Γ (β := []) S ag (fun _ e => e) (fun _ e => e) (I.rep i p ao hp ho)
    rwa [List.append_nil] at this
  · rw [Fz.put_ne _ _ (fun e => by subst e; exact hα hb)]; exact I.nof b hb
theorem Inv.alloc (I : Inv Γ F α st h) (p : SA) (ao : AO) (h1 : h.get? p.1 = none) (h2 : h.get? p.2 = none) (l1 : ∃ o, h'.get? p.1 = some o) (l2 : ∃ o, h'.get? p.2 = some o)
    (hold : ∀ a o, h.get? a = some o → h'.get? a = some o) (r : AOR Γ F (α ++ [p]) h' p ao) : Inv Γ F (α ++ [p]) (st ++ [ao]) h' ∧ ExtE F α h F (α ++ [p]) h' := by
  have ag : ∀ a o', F a = some o' → h'.get? a = some o' := fun a o' e => hold a _ (I.agree a o' e)
  refine ⟨⟨ag, I.base, by simp [I.len], fun i q a hq ha => ?_, fun a ha => ?_, fun a ha => ?_, ?_⟩, ⟨.refl F, ⟨[p], rfl, by simp [h1, h2]⟩, fun a o e _ _ => ⟨hold a o e, rfl⟩, fun a o e => ⟨o, hold a o e⟩⟩⟩
  · by_cases hi : i < α.length
    · rw [List.getElem?_append_left hi] at hq
      rw [List.getElem?_append_left (I.len ▸ hi)] at ha
      exact AOR.mono Γ (.refl F) ag (hold _) (hold _) (I.rep i q a hq ha)
    · rw [List.getElem?_append_right (by omega)] at hq
      rw [List.getElem?_append_right (by rw [← I.len]; omega)] at ha
      rw [I.len] at hq
      cases hj : i - st.length with
      | zero => rw [hj] at hq ha; simp at hq ha; subst hq ha; exact r
      | succ j => rw [hj] at hq; simp at hq
  · rw [sAddrs_append, List.mem_append] at ha
    rcases ha with ha | ha
    · exact I.nof a ha
    · obtain ⟨q, hq, e⟩ := mem_sAddrs.mp ha
      rw [List.mem_singleton] at hq; subst hq
      rcases e with rfl | rfl <;> exact I.fnone (by assumption)
  · rw [sAddrs_append, List.mem_append] at ha
    rcases ha with ha | ha
    · obtain ⟨o, e⟩ := I.low a ha; exact ⟨o, hold _ _ e⟩
    · obtain ⟨q, hq, e⟩ := mem_sAddrs.mp ha
      rw [List.mem_singleton] at hq; subst hq
      rcases e with rfl | rfl <;> assumption
  · refine List.pairwise_append.mpr ⟨I.disj, List.pairwise_singleton _ _, fun q hq r hr => ?_⟩
    rw [List.mem_singleton] at hr; subst hr
    obtain ⟨o1, a1⟩ := I.low _ (mem_sAddrs.mpr ⟨q, hq, .inl rfl⟩)
    obtain ⟨o2, a2⟩ := I.low _ (mem_sAddrs.mpr ⟨q, hq, .inr rfl⟩)
    refine ⟨?_, ?_, ?_, ?_⟩ <;> intro e
    · rw [e, h1] at a1; cases a1
    · rw [e, h2] at a1; cases a1
    · rw [e, h1] at a2; cases a2
    · rw [e, h2] at a2; cases a2
theorem SDisj.at {α : List SA} (d : SDisj α) {i j : Nat} {p q : SA} (hp : α[i]? = some p) (hq : α[j]? = some q) (hij : i ≠ j) : p.1 ≠ q.1 ∧ p.1 ≠ q.2 ∧ p.2 ≠ q.1 ∧ p.2 ≠ q.2 := by
  obtain ⟨hi, rfl⟩ := List.getElem?_eq_some_iff.mp hp
  obtain ⟨hj, rfl⟩ := List.getElem?_eq_some_iff.mp hq
  rw [SDisj, List.pairwise_iff_getElem] at d
  rcases Nat.lt_or_gt_of_ne hij with h | h
  · exact d i j hi hj h
  · obtain ⟨a, b, c, e⟩ := d j i hj hi h
    exact ⟨a.symm, c.symm, b.symm, e.symm⟩
theorem Inv.set (I : Inv Γ F α st h) {n : Nat} {p : SA} {a : Addr} {ao : AO} (hp : α[n]? = some p) (ha : a = p.1 ∨ a = p.2) (hs : Heap.SameBut a h h') (hx : ∃ o, h'.get? a = some o) (r : AOR Γ F α h' p ao) : Inv Γ F α (st.set n ao) h' ∧ ExtE F α h F α h' := by
  have hm : a ∈ sAddrs α := mem_sAddrs.mpr ⟨p, List.mem_of_getElem? hp, ha⟩
  have ag : ∀ b o', F b = some o' → h'.get? b = some o' := fun b o' e => (hs.2 b (fun e' => by subst e'; rw [I.nof _ hm] at e; cases e)).trans (I.agree b o' e)
  have low : ∀ b o, h.get? b = some o → ∃ o', h'.get? b = some o' := fun b o e => by
    by_cases hb : b = a
    · subst hb; exact hx
    · exact ⟨o, (hs.2 b hb).trans e⟩
  refine ⟨⟨ag, I.base, by simp [I.len], fun i q x hq hx => ?_, I.nof, fun b hb => let ⟨o, e⟩ := I.low b hb; low b o e, I.disj⟩, ⟨.refl F, ⟨[], by simp, by simp⟩, fun b o e hbm _ => ⟨(hs.2 b (fun e => by subst e; exact hbm hm)).trans e, rfl⟩, low⟩⟩
  by_cases hi : n = i
  · subst hi
    rw [hp] at hq; cases hq
    have hlt : n < st.length := by rw [← I.len]; exact (List.getElem?_eq_some_iff.mp hp).1
    rw [List.getElem?_set_self hlt] at hx
    cases hx
    exact r
  · rw [List.getElem?_set_ne hi] at hx
    obtain ⟨d1, d2, d3, d4⟩ := I.disj.at hp hq hi
    have e1 : h'.get? q.1 = h.get? q.1 := hs.2 _ (by rcases ha with rfl | rfl; exact d1.symm; exact d3.symm)
    have e2 : h'.get? q.2 = h.get? q.2 := hs.2 _ (by rcases ha with rfl | rfl; exact d2.symm; exact d4.symm)
    have := AOR.mono Γ (β := []) (.refl F) ag (fun _ e => e1.trans e) (fun _ e => e2.trans e) (I.rep i q x hq hx)
    rwa [List.append_nil] at this
theorem Inv.obj (I : Inv Γ F α st h) {n : Nat} {ao : AO} (ho : st[n]? = some ao) {v : Value} (hv : VR F α (.ob n) v) : ∃ p, α[n]? = some p ∧ v = .ref p.1 ∧ AOR Γ F α h p ao := by
  obtain ⟨p, hp, rfl⟩ := hv
  exact ⟨p, hp, rfl, I.rep n p ao hp ho⟩
end
section
variable (Γ : Wd)
noncomputable def PostE (F : Fz) (α : List SA) (s : Shared) (Q : AV → List AO → Prop) (v : Value) (s' : Shared) : Prop :=
  ∃ F' α' st' av tk, s' = { s with heap := s'.heap, toks := tk } ∧ ExtE F α s.heap F' α' s'.heap ∧ Inv Γ F' α' st' s'.heap ∧ VR F' α' av v ∧ Q av st'
variable {Γ}
theorem PostE.here {F : Fz} {α : List SA} {st : List AO} {s : Shared} {Q : AV → List AO → Prop} {v : Value} {av : AV} {tk : Nat} (I : Inv Γ F α st s.heap) (r : VR F α av v) (q : Q av st) : PostE Γ F α s Q v { s with toks := tk } :=
  ⟨F, α, st, av, tk, rfl, .refl _ _ _, I, r, q⟩
theorem PostE.here' {F : Fz} {α : List SA} {st : List AO} {s : Shared} {Q : AV → List AO → Prop} {v : Value} {av : AV} (I : Inv Γ F α st s.heap) (r : VR F α av v) (q : Q av st) : PostE Γ F α s Q v s :=
  ⟨F, α, st, av, s.toks, rfl, .refl _ _ _, I, r, q⟩
theorem PostE.after {F F₁ : Fz} {α α₁ : List SA} {s s₁ : Shared} {Q : AV → List AO → Prop} {v : Value} {s' : Shared} (hs : ∃ tk, s₁ = { s with heap := s₁.heap, toks := tk }) (x : ExtE F α s.heap F₁ α₁ s₁.heap) (p : PostE Γ F₁ α₁ s₁ Q v s') : PostE Γ F α s Q v s' := by
  obtain ⟨F', α', st', av, tk, e, y, I, r, q⟩ := p
  obtain ⟨tk₁, e₁⟩ := hs
  refine ⟨F', α', st', av, tk, ?_, x.trans y, I, r, q⟩
  rw [e, e₁]
end
end Mn
end
section
open PySem PySem.W PyProof.Rows PySem.SeqAt
namespace Mn
theorem listAt.isList {h : Heap} {a : Addr} {vs : List Value} (x : listAt h a vs) : h.IsList a vs.toArray := let ⟨n, e⟩ := x; ⟨_, e, rfl, n, rfl⟩
theorem big_line : big = sizeLine := rfl
section
variable {prog : Program} {w : World} {A : Around} {E : Value → Shared → Prop} {s : Shared} {F : Fz}
noncomputable def Agree (F : Fz) (h : Heap) : Prop := ∀ a o, F a = some o → h.get? a = some o
theorem DR.tupAt {l : List D} {v : Value} (hA : Agree F s.heap) (r : DR F (.tup l) v) : ∃ a vs, v = .ref a ∧ s.heap.IsTuple a (List.toArray vs) ∧ DRs F l vs := by
  cases r with
  | @tup _ a o vs n h1 h2 h3 h4 => exact ⟨a, vs, rfl, ⟨o, hA _ _ h1, h2, n, h3⟩, h4⟩
theorem DR.lstAt {l : List D} {v : Value} (hA : Agree F s.heap) (r : DR F (.lst l) v) : ∃ a vs, v = .ref a ∧ s.heap.IsList a (List.toArray vs) ∧ DRs F l vs := by
  cases r with
  | @lst _ a o vs n h1 h2 h3 h4 => exact ⟨a, vs, rfl, ⟨o, hA _ _ h1, h2, n, h3⟩, h4⟩
theorem isEmpty_of {l : List D} {vs : List Value} (r : DRs F l vs) : (vs.toArray).isEmpty = l.isEmpty := by
  have := r.length
  cases l <;> cases vs <;> simp_all
theorem truthy_T {l : List D} {vs : List Value} {a : Addr} {Q : Bool → Shared → Prop} (ht : s.heap.IsTuple a vs.toArray) (q : DRs F l vs) (hl : l.length ≤ big) (h : ∀ tk, Q (!l.isEmpty) { s with toks := tk }) : wpAny (model prog w) A (truthy (.ref a)) Q E s := by
  refine truthy_tuple ht ?_ ?_
  · have := q.length; rw [List.size_toArray, ← this]; unfold big at hl; omega
  · rw [isEmpty_of q]; exact h _
theorem truthy_L {l : List D} {a : Addr} {vs : List Value} {Q : Bool → Shared → Prop} (ht : s.heap.IsList a vs.toArray) (q : DRs F l vs) (hl : l.length ≤ big) (h : ∀ tk, Q (!l.isEmpty) { s with toks := tk }) : wpAny (model prog w) A (truthy (.ref a)) Q E s := by
  refine wpAny_truthy_list ht ?_ ?_
  · have := q.length; rw [List.size_toArray, ← this]; unfold big at hl; omega
  · rw [isEmpty_of q]; exact h _
theorem truthy_D {st : List AO} {x : D} {v : Value} {b : Bool} {Q : Bool → Shared → Prop} (hA : Agree F s.heap) (r : DR F x v) (e : TrR st (.d x) b) (h : ∀ tk, Q b { s with toks := tk }) : wpAny (model prog w) A (truthy v) Q E s := by
  cases e with
  | non => cases r; exact truthy_none (h s.toks)
  | boo c => cases r; exact wpAny_truthy_bool (h s.toks)
  | int i => cases r; exact truthy_int (h s.toks)
  | @str t hl =>
    cases r
    have hs : (⟨t.toArray⟩ : Str).length = t.length := List.size_toArray ..
    refine P.truthy_str ?_ ?_
    · rw [hs]; unfold big at hl; omega
    · rw [hs]
      have : ((t.length : Int) != 0) = !t.isEmpty := by cases t <;> rfl
      rw [this]; exact h _
  | tup hl =>
    obtain ⟨a, vs, rfl, ht, q⟩ := r.tupAt (s := s) hA
    exact truthy_T ht q hl h
  | lst hl =>
    obtain ⟨a, vs, rfl, ht, q⟩ := r.lstAt (s := s) hA
    exact truthy_L ht q hl h
theorem str_key (a b : List Nat) : ((⟨a.toArray⟩ : Str) == ⟨b.toArray⟩) = (a == b) := by
  rw [Bool.eq_iff_iff]
  simp [Str.mk.injEq]
theorem eq_flat {x y : D} {v u : Value} {b : Bool} (hA : Agree F s.heap) (hu : A.units < cLine) (e : FE x y b) (hx : DR F x v) (hy : DR F y u) : EqAt A s v u b := by
  cases e with
  | nn => cases hx; cases hy; exact EqAt.same _
  | bb => cases hx; cases hy; exact EqAt.bool_bool _ _
  | ii => cases hx; cases hy; exact EqAt.int_int _ _ _ _
  | ss => cases hx; cases hy; rw [← str_key]; exact EqAt.str_str _ _ _ _
  | ni => cases hx; cases hy; exact EqAt.none_int _ _
  | ns => cases hx; cases hy; exact EqAt.none_str _ _
  | nt => cases hx; obtain ⟨a, vs, rfl, ht, q⟩ := hy.tupAt (s := s) hA; exact EqAt.none_tuple ht hu
  | in_ => cases hx; cases hy; exact EqAt.int_none _ _
  | sn => cases hx; cases hy; exact EqAt.str_none _ _
  | tn => cases hy; obtain ⟨a, vs, rfl, ht, q⟩ := hx.tupAt (s := s) hA; exact EqAt.tuple_none ht hu
  | is_ => cases hx; cases hy; exact EqAt.int_str _ _ _ _
  | si => cases hx; cases hy; exact EqAt.str_int _ _ _ _
  | it => cases hx; obtain ⟨a, vs, rfl, ht, q⟩ := hy.tupAt (s := s) hA; exact EqAt.int_tuple _ _ ht hu
  | ti => cases hy; obtain ⟨a, vs, rfl, ht, q⟩ := hx.tupAt (s := s) hA; exact EqAt.tuple_int _ _ ht hu
theorem eq_items {l m : List D} {b : Bool} (hA : Agree F s.heap) (hu : A.units < cLine) (e : LE1 l m b) : ∀ {vs us : List Value}, DRs F l vs → DRs F m us →
    ∃ e : Nat → Bool, (∀ j (h1 : j < vs.length) (h2 : j < us.length), EqAt A s vs[j] us[j] (e j)) ∧ ((List.range (min vs.length us.length)).all e && vs.length == us.length) = b := by
  induction e with
  | nn => intro vs us p q; cases p; cases q; exact ⟨fun _ => true, fun j h1 => absurd h1 (Nat.not_lt_zero _), rfl⟩
  | nc => intro vs us p q; cases p; cases q; exact ⟨fun _ => true, fun j h1 => absurd h1 (Nat.not_lt_zero _), by rw [List.length_nil, Nat.zero_min]; rfl⟩
  | cn => intro vs us p q; cases p; cases q; exact ⟨fun _ => true, fun j _ h2 => absurd h2 (Nat.not_lt_zero _), by rw [List.length_nil, Nat.min_zero]; rfl⟩
  | @cc _ _ _ _ b1 _ h r ih =>
    intro vs us p q
    cases p with | cons hx hl => cases q with | cons hy hm =>
    obtain ⟨g, hg, hb⟩ := ih hl hm
    refine ⟨fun j => match j with | 0 => b1 | j + 1 => g j, fun j h1 h2 => ?_, ?_⟩
    · cases j with
      | zero => exact eq_flat hA hu h hx hy
      | succ j => exact hg j (Nat.lt_of_succ_lt_succ h1) (Nat.lt_of_succ_lt_succ h2)
    · rw [← hb]
      simp only [List.length_cons, Nat.add_min_add_right, List.range_succ_eq_map, List.all_cons, List.all_map, Bool.and_assoc]
      congr 1
      congr 1
      rw [Bool.eq_iff_iff]; simp
theorem in1_units (A : Around) : A.in1.units = A.units + 1 := rfl
theorem eq_tup {x y : D} {v u : Value} {b : Bool} (hA : Agree F s.heap) (hu : A.units + 1 < cLine) (e : TE x y b) (hx : DR F x v) (hy : DR F y u) : RcAt A s v u b := by
  have hu' : A.units < cLine := by omega
  cases e with
  | flat e =>
    cases e with
    | nn => cases hx; cases hy; exact RcAt.none_none
    | bb => cases hx; cases hy; exact RcAt.bool_bool _ _
    | ii => cases hx; cases hy; exact RcAt.int_int _ _ _ _
    | ss => cases hx; cases hy; rw [← str_key]; exact RcAt.str_str _ _ _ _
    | ni => cases hx; cases hy; exact RcAt.none_int _ _
    | ns => cases hx; cases hy; exact RcAt.none_str _ _
    | nt => cases hx; obtain ⟨a, vs, rfl, ht, q⟩ := hy.tupAt (s := s) hA; exact RcAt.none_tuple ht hu'
    | in_ => cases hx; cases hy; exact RcAt.int_none _ _
    | sn => cases hx; cases hy; exact RcAt.str_none _ _
    | tn => cases hy; obtain ⟨a, vs, rfl, ht, q⟩ := hx.tupAt (s := s) hA; exact RcAt.tuple_none ht hu'
    | is_ => cases hx; cases hy; exact RcAt.int_str _ _ _ _
    | si => cases hx; cases hy; exact RcAt.str_int _ _ _ _
    | it => cases hx; obtain ⟨a, vs, rfl, ht, q⟩ := hy.tupAt (s := s) hA; exact RcAt.int_tuple _ _ ht hu'
    | ti => cases hy; obtain ⟨a, vs, rfl, ht, q⟩ := hx.tupAt (s := s) hA; exact RcAt.tuple_int _ _ ht hu'
  | tup e =>
    obtain ⟨a, vs, rfl, hl, q⟩ := hx.tupAt (s := s) hA
    obtain ⟨c, us, rfl, hm, q'⟩ := hy.tupAt (s := s) hA
    obtain ⟨g, hg, hb⟩ := eq_items (A := A.in1) (s := s) hA hu e q q'
    subst hb
    exact RcAt.tuples (A := A) hl hm hu' (e := g) hg
theorem ne_tup {x y : D} {v u : Value} {b : Bool} (hA : Agree F s.heap) (hu : A.units + 1 < cLine) (e : TE x y b) (hx : DR F x v) (hy : DR F y u) : RcNeAt A s v u (!b) := by
  have hu' : A.units < cLine := by omega
  cases e with
  | flat e =>
    cases e with
    | nn => cases hx; cases hy; exact RcNeAt.none_none
    | bb => cases hx; cases hy; exact RcNeAt.bool_bool _ _
    | ii => cases hx; cases hy; exact RcNeAt.int_int _ _ _ _
    | ss => cases hx; cases hy; rw [← str_key]; exact RcNeAt.str_str _ _ _ _
    | ni => cases hx; cases hy; exact RcNeAt.none_int _ _
    | ns => cases hx; cases hy; exact RcNeAt.none_str _ _
    | nt => cases hx; obtain ⟨a, vs, rfl, ht, q⟩ := hy.tupAt (s := s) hA; exact RcNeAt.none_tuple ht hu'
    | in_ => cases hx; cases hy; exact RcNeAt.int_none _ _
    | sn => cases hx; cases hy; exact RcNeAt.str_none _ _
    | tn => cases hy; obtain ⟨a, vs, rfl, ht, q⟩ := hx.tupAt (s := s) hA; exact RcNeAt.tuple_none ht hu'
    | is_ => cases hx; cases hy; exact RcNeAt.int_str _ _ _ _
    | si => cases hx; cases hy; exact RcNeAt.str_int _ _ _ _
    | it => cases hx; obtain ⟨a, vs, rfl, ht, q⟩ := hy.tupAt (s := s) hA; exact RcNeAt.int_tuple _ _ ht hu'
    | ti => cases hy; obtain ⟨a, vs, rfl, ht, q⟩ := hx.tupAt (s := s) hA; exact RcNeAt.tuple_int _ _ ht hu'
  | tup e =>
    obtain ⟨a, vs, rfl, hl, q⟩ := hx.tupAt (s := s) hA
    obtain ⟨c, us, rfl, hm, q'⟩ := hy.tupAt (s := s) hA
    obtain ⟨g, hg, hb⟩ := eq_items (A := A.in1) (s := s) hA hu e q q'
    subst hb
    exact RcNeAt.tuples (A := A) hl hm hu' (e := g) hg
end
end Mn
end
section
open PySem PySem.W PyProof.Rows PySem.SeqAt
namespace Mn
section
variable {Γ : Wd} {A : Around} {E : Value → Shared → Prop} {s : Shared} {F : Fz} {α : List SA} {st : List AO}
theorem VR.dd {x : D} {v : Value} (r : VR F α (.d x) v) : DR F x v := r
theorem ints_are {k : List Int} : ∀ {vs : List Value}, DRs F (k.map .int) vs → ItemsAre (intKind Γ.prog Γ.w) k vs := by
  induction k with
  | nil => intro vs h; cases h; exact .nil
  | cons i k ih => intro vs h; cases h with | cons x y => cases x; exact .cons (intKind_is _ _ _ _) (ih y)
theorem isKey_of {k : List Int} {v : Value} (hA : Agree F s.heap) (r : DR F (.tup (k.map .int)) v) : ∃ a, v = .ref a ∧ IsTupleKey (intKind Γ.prog Γ.w) s.heap k a := by
  cases r with
  | @tup _ a o vs n h1 h2 h3 h4 => exact ⟨a, rfl, o, vs.toArray, n, hA _ _ h1, h2, h3, ints_are h4⟩
theorem find_KV {κ κ' : Type} [DecidableEq κ] [DecidableEq κ'] {f : κ → κ'} (hf : ∀ a b, f a = f b → a = b) (k : κ) {es : List (κ × D)} {kvs : List (κ' × Value)} (h : KV F f es kvs) :
    (match aget es k with | none => valueAt kvs (f k) = none | some d => ∃ v, valueAt kvs (f k) = some v ∧ DR F d v) := by
  induction h with
  | nil => rfl
  | @cons k' _ _ _ _ a b ih =>
    unfold aget valueAt
    rw [List.find?_cons]
    by_cases h : k' = k
    · subst h
      rw [if_pos rfl, decide_eq_true rfl]
      exact ⟨_, rfl, a⟩
    · rw [if_neg h, decide_eq_false fun e => h (hf _ _ e)]
      exact ih
theorem find_KVH (k : List Int) {es : List (List Int × D)} {xs : List (List Int × Addr × Value)} (h : KVH F es xs) :
    (match aget es k with | none => (atKey xs k) = none | some d => ∃ p, atKey xs k = some p ∧ DR F d p.2) := by
  induction h with
  | nil => rfl
  | cons x a b ih =>
    rename_i k' _ _ _ _ _
    unfold aget atKey
    rw [List.find?_cons]
    by_cases h : k' = k
    · subst h
      rw [if_pos rfl, decide_eq_true rfl]
      exact ⟨_, rfl, a⟩
    · rw [if_neg h, decide_eq_false h]
      exact ih
theorem empty_dictOf {K : Type} [DecidableEq K] (knd : KeyKind Γ.prog Γ.w K) {h : Heap} {a : Addr} {n : Nat} (e : h.get? a = some { cls := .type "dict", data := .dict #[] n }) : h.DictOf knd a [] :=
  ⟨_, #[], n, e, ⟨rfl, rfl, rfl⟩, rfl, fun _ he => by simp at he, .nil, List.nodup_nil⟩
theorem empty_dictOfH {h : Heap} {a : Addr} {n : Nat} (e : h.get? a = some { cls := .type "dict", data := .dict #[] n }) : h.DictOfH (tupleKind (intKind Γ.prog Γ.w)) a [] :=
  ⟨_, #[], n, e, ⟨rfl, rfl, rfl⟩, rfl, rfl, fun _ hx => by simp at hx, List.nodup_nil⟩
inductive DictLook (Γ : Wd) (F : Fz) (s : Shared) (d : Addr) (key : Value) (r : Option D) : Prop
  | val {K : Type} [DecidableEq K] (knd : KeyKind Γ.prog Γ.w K) (k : K) (kvs : List (K × Value)) : knd.is k key = true → s.heap.DictOf knd d kvs → (match r with | none => valueAt kvs k = none | some x => ∃ v, valueAt kvs k = some v ∧ DR F x v) → DictLook Γ F s d key r
  | tup (k : List Int) (a : Addr) (xs : List (List Int × Addr × Value)) : key = .ref a → IsTupleKey (intKind Γ.prog Γ.w) s.heap k a → s.heap.DictOfH (tupleKind (intKind Γ.prog Γ.w)) d xs → (match r with | none => atKey xs k = none | some x => ∃ p, atKey xs k = some p ∧ DR F x p.2) → DictLook Γ F s d key r
theorem dict_look {p : SA} {o : AO} {x : D} {key : Value} {r : Option D} (hA : Agree F s.heap) (e : DG o x r) (h : AOR Γ F α s.heap p o) (hk : DR F x key) : (p.1 == sysModules) = false ∧ DictLook Γ F s p.1 key r := by
  cases e with
  | s0 k => obtain ⟨_, m, n, ho⟩ := h; cases hk; exact ⟨m, .val (strKind Γ.prog Γ.w) (sKey k) [] (strKind_is _ _ _ _) (empty_dictOf _ ho) rfl⟩
  | i0 k => obtain ⟨_, m, n, ho⟩ := h; cases hk; exact ⟨m, .val (intKind Γ.prog Γ.w) k [] (intKind_is _ _ _ _) (empty_dictOf _ ho) rfl⟩
  | t0 k =>
    obtain ⟨_, m, n, ho⟩ := h
    obtain ⟨a, rfl, hk'⟩ := isKey_of (Γ := Γ) (s := s) hA hk
    exact ⟨m, .tup k a [] rfl hk' (empty_dictOfH ho) rfl⟩
  | s es k => obtain ⟨_, m, kvs, hd, q⟩ := h; cases hk; exact ⟨m, .val (strKind Γ.prog Γ.w) (sKey k) kvs (strKind_is _ _ _ _) hd (find_KV (fun _ _ => sKey_inj) k q)⟩
  | i es k => obtain ⟨_, m, kvs, hd, q⟩ := h; cases hk; exact ⟨m, .val (intKind Γ.prog Γ.w) k kvs (intKind_is _ _ _ _) hd (find_KV (fun _ _ e => e) k q)⟩
  | t es k =>
    obtain ⟨_, m, xs, hd, q⟩ := h
    obtain ⟨a, rfl, hk'⟩ := isKey_of (Γ := Γ) (s := s) hA hk
    exact ⟨m, .tup k a xs rfl hk' hd (find_KVH k q)⟩
theorem in_dict {d : Addr} {key : Value} {r : Option D} {Q : Value → Shared → Prop} (hu : A.units + 1 < cLine) (hd : (d == sysModules) = false) (L : DictLook Γ F s d key r) (h : ∀ tk, Q (.bool r.isSome) { s with toks := tk }) : wpAny (model Γ.prog Γ.w) A (compareOp .In key (.ref d)) Q E s := by
  cases L with
  | val knd k kvs hk hm hr =>
    refine wpAny_in_of hk hd hm.mapOf ?_
    cases r with
    | none => rw [hr]; exact h _
    | some x => obtain ⟨v, e, _⟩ := hr; rw [e]; exact h _
  | tup k a xs e hk hm hr =>
    subst e
    refine wpAny_in_heap (knd := tupleKind (intKind Γ.prog Γ.w)) hu hk hd hm ?_
    cases r with
    | none => rw [hr]; exact h _
    | some x => obtain ⟨v, e, _⟩ := hr; rw [e]; exact h _
mutual
theorem DR.inj {x : D} {v : Value} (h : DR F x v) : ∀ {y : D}, DR F y v → x = y := by
  cases h with
  | non => intro y g; cases g; rfl
  | boo => intro y g; cases g; rfl
  | int => intro y g; cases g; rfl
  | str s t => intro y g; generalize e : (Value.str ⟨s.toArray⟩ t) = v at g; cases g <;> cases e; rfl
  | tup h1 h2 h3 h4 =>
    intro y g
    cases g with
    | tup g1 g2 g3 g4 =>
      rw [h1] at g1; cases g1
      rw [h3] at g3
      injection g3 with e1 e2
      cases (congrArg Array.toList e1 : _ = _)
      rw [DRs.inj h4 g4]
    | lst g1 g2 g3 g4 =>
      rw [h1] at g1; cases g1
      rw [h2] at g2; exact absurd g2 (by decide)
  | lst h1 h2 h3 h4 =>
    intro y g
    cases g with
    | tup g1 g2 g3 g4 =>
      rw [h1] at g1; cases g1
      rw [h2] at g2; exact absurd g2 (by decide)
    | lst g1 g2 g3 g4 =>
      rw [h1] at g1; cases g1
      rw [h3] at g3
      injection g3 with e1 e2
      cases (congrArg Array.toList e1 : _ = _)
      rw [DRs.inj h4 g4]
theorem DRs.inj {l : List D} {vs : List Value} (h : DRs F l vs) : ∀ {m : List D}, DRs F m vs → l = m := by
  cases h with
  | nil => intro m g; cases g; rfl
  | cons a b => intro m g; cases g with | cons c d => rw [DR.inj a c, DRs.inj b d]
end
theorem FE.self {x y : D} {b : Bool} (e : FE x y b) (h : x = y) : b = true := by
  cases e with
  | nn => rfl
  | bb => cases h; exact beq_self_eq_true _
  | ii => cases h; exact beq_self_eq_true _
  | ss => cases h; exact beq_self_eq_true _
  | _ => cases h
theorem LE1.self {l m : List D} {b : Bool} (e : LE1 l m b) : l = m → b = true := by
  induction e with
  | nn => intro _; rfl
  | nc => intro h; cases h
  | cn => intro h; cases h
  | cc h r ih =>
    intro e
    injection e with e1 e2
    rw [h.self e1, ih e2]; rfl
theorem eq_item {x y : D} {v u : Value} {b : Bool} (hA : Agree F s.heap) (hu : A.units + 1 < cLine) (e : TE x y b) (hx : DR F x v) (hy : DR F y u) : EqAt A s v u b := by
  have r := eq_tup (s := s) hA hu e hx hy
  cases e with
  | flat e => exact eq_flat hA (by omega) e hx hy
  | tup e =>
    obtain ⟨a, vs, rfl, _, _⟩ := hx.tupAt (s := s) hA
    obtain ⟨c, us, rfl, _, _⟩ := hy.tupAt (s := s) hA
    by_cases hac : a = c
    · subst hac
      have := DR.inj hx hy
      injection this with h
      rw [e.self h]; exact EqAt.same _
    · exact EqAt.of_refs hac r
theorem in_items {x : D} {u : Value} (hA : Agree F s.heap) (hu : A.units + 1 < cLine) (hx : DR F x u) {l : List D} {b : Bool} (e : IE x l b) : ∀ {vs : List Value}, DRs F l vs →
    ∃ e : Value → Bool, (∀ y ∈ vs, EqAt A s y u (e y)) ∧ vs.any e = b := by
  induction e with
  | nil => intro vs h; cases h; exact ⟨fun _ => false, (fun y hy => nomatch hy), rfl⟩
  | @cons y l b1 b2 h1 r ih =>
    intro vs h
    cases h with | @cons _ v _ vs hy hl =>
    obtain ⟨g, hg, hb⟩ := ih hl
    have hv := eq_item (s := s) hA hu h1 hy hx
    refine ⟨fun z => if z = v then b1 || (g v && decide (v ∈ vs)) else g z, fun z hz => ?_, ?_⟩
    · dsimp only
      by_cases hzv : z = v
      · rw [if_pos hzv]
        subst hzv
        by_cases hm : z ∈ vs
        · rw [decide_eq_true hm, Bool.and_true]
          cases b1 with
          | true => exact hv
          | false => exact hg z hm
        · rw [decide_eq_false hm, Bool.and_false, Bool.or_false]; exact hv
      · rw [if_neg hzv]
        rcases List.mem_cons.mp hz with h | h
        · exact absurd h hzv
        · exact hg z h
    · rw [List.any_cons, if_pos rfl, ← hb, Bool.eq_iff_iff]
      simp only [Bool.or_eq_true, List.any_eq_true, Bool.and_eq_true, decide_eq_true_eq]
      constructor
      · rintro ((h | ⟨h, h'⟩) | ⟨z, hz, h⟩)
        · exact .inl h
        · exact .inr ⟨v, h', h⟩
        · by_cases hzv : z = v
          · rw [if_pos hzv, Bool.or_eq_true, Bool.and_eq_true] at h
            rcases h with h | h
            · exact .inl h
            · exact .inr ⟨z, hz, hzv ▸ h.1⟩
          · rw [if_neg hzv] at h; exact .inr ⟨z, hz, h⟩
      · rintro (h | ⟨z, hz, h⟩)
        · exact .inl (.inl h)
        · by_cases hzv : z = v
          · exact .inl (.inr ⟨hzv ▸ h, hzv ▸ hz⟩)
          · exact .inr ⟨z, hz, by rw [if_neg hzv]; exact h⟩
theorem cmp_D {op : CmpOp} {x y : D} {v u : Value} {b : Bool} {Q : Value → Shared → Prop} (hA : Agree F s.heap) (hu : A.units + 2 < cLine) (e : CD op x y b) (hx : DR F x v) (hy : DR F y u) (h : Q (.bool b) s) :
    wpAny (model Γ.prog Γ.w) A (compareOp op v u) Q E s := by
  have hu' : A.units + 1 < cLine := by omega
  cases e with
  | lt => cases hx; cases hy; exact lt_int h
  | le => cases hx; cases hy; exact le_int h
  | gt => cases hx; cases hy; exact gt_int h
  | ge => cases hx; cases hy; exact ge_int h
  | eq e => exact eq_tup (s := s) hA hu' e hx hy _ _ _ _ h
  | ne e => exact ne_tup (s := s) hA hu' e hx hy _ _ _ _ h
  | is_ =>
    cases hy
    refine is_none ?_
    cases hx <;> exact h
  | isN =>
    cases hy
    refine isNot_none ?_
    cases hx <;> exact h
  | inT e =>
    obtain ⟨a, vs, rfl, ht, q⟩ := hy.tupAt (s := s) hA
    obtain ⟨g, hg, hb⟩ := in_items (A := A.in1) (s := s) hA hu hx e q
    refine in_tupleAt g ht (fun y hy => hg y (by simpa using hy)) ?_
    rw [List.any_toArray, hb]; exact h
  | inL e =>
    obtain ⟨a, vs, rfl, ht, q⟩ := hy.lstAt (s := s) hA
    obtain ⟨g, hg, hb⟩ := in_items (A := A.in1) (s := s) hA hu hx e q
    refine in_listAt g ht (fun y hy => hg y (by simpa using hy)) ?_
    rw [List.any_toArray, hb]; exact h
  | niL e =>
    obtain ⟨a, vs, rfl, ht, q⟩ := hy.lstAt (s := s) hA
    obtain ⟨g, hg, hb⟩ := in_items (A := A.in1) (s := s) hA hu hx e q
    refine notIn_listAt g ht (fun y hy => hg y (by simpa using hy)) ?_
    rw [List.any_toArray, hb]; exact h
  | inS c y =>
    cases hx; cases hy
    refine P.in_str ?_
    show Q (.bool (!(Builtin.Str.occurrences ⟨y.toArray⟩ ⟨#[c]⟩ 0 (Str.length ⟨y.toArray⟩) 1).isEmpty)) s
    rw [StrLaws.found_one]
    have : decide (c ∈ (⟨y.toArray⟩ : Str).cps.toList) = y.contains c := by
      rw [Bool.eq_iff_iff]; simp
    rw [this]; exact h
theorem cmp_A {op : CmpOp} {x y : AV} {v u : Value} {b : Bool} {Q : Value → Shared → Prop} (I : Inv Γ F α st s.heap) (hu : A.units + 2 < cLine) (e : CA st op x y b) (hx : VR F α x v) (hy : VR F α y u)
    (h : ∀ tk, Q (.bool b) { s with toks := tk }) : wpAny (model Γ.prog Γ.w) A (compareOp op v u) Q E s := by
  cases e with
  | d e => exact cmp_D I.agree hu e hx hy (h s.toks)
  | inD ho e =>
    obtain ⟨p, hp, rfl, hr⟩ := I.obj ho hy
    obtain ⟨m, L⟩ := dict_look (s := s) I.agree e hr hx
    exact in_dict (by omega) m L h
  | is_ =>
    cases hy
    obtain ⟨p, _, rfl⟩ := hx
    exact is_none (h s.toks)
  | isN =>
    cases hy
    obtain ⟨p, _, rfl⟩ := hx
    exact isNot_none (h s.toks)
end
end Mn
end
section
open PySem PySem.W PyProof.Rows PySem.SeqAt
namespace Mn
section
variable {Γ : Wd} {A : Around} {E : Value → Shared → Prop} {s : Shared} {F : Fz} {α : List SA} {st : List AO} {Q : AV → List AO → Prop}
theorem VR.d_int (i : Int) (t : Tok) : VR F α (.d (.int i)) (.int i t) := DR.int i t
theorem VR.d_str (x : List Nat) (t : Tok) : VR F α (.d (.str x)) (.str ⟨x.toArray⟩ t) := DR.str x t
theorem VR.d_boo (b : Bool) : VR F α (.d (.boo b)) (.bool b) := DR.boo b
theorem VR.d_non : VR F α (.d .non) .none := DR.non
theorem str_app (x y : List Nat) : ((⟨x.toArray⟩ : Str) ++ ⟨y.toArray⟩) = ⟨(x ++ y).toArray⟩ := by
  show Str.append _ _ = _
  unfold Str.append
  simp
theorem str_len (x : List Nat) : (⟨x.toArray⟩ : Str).length = x.length := List.size_toArray ..
theorem post_made {o : Obj} {x : D} (I : Inv Γ F α st s.heap) (hf : o.isFreed = false) (r : DR (F.put s.heap.objs.size o) x (.ref s.heap.objs.size)) (q : Q (.d x) st) (tk : Nat) :
    PostE Γ F α s Q (.ref s.heap.objs.size) { s with heap := s.heap.push o, toks := tk } := by
  obtain ⟨J, X⟩ := I.freeze o hf
  exact ⟨_, α, st, .d x, tk, rfl, X, J, r, q⟩
theorem dr_tup_new {l : List D} {vs : List Value} (I : Inv Γ F α st s.heap) (q : DRs F l vs) : DR (F.put s.heap.objs.size { cls := .type "tuple", data := .seq vs.toArray }) (.tup l) (.ref s.heap.objs.size) :=
  .tup (n := 0) (Fz.put_self _ _ _) rfl rfl (q.mono (Fz.sub_put _ (I.fnone (get_size _ (Nat.le_refl _)))))
theorem dr_lst_new {l : List D} {vs : List Value} (I : Inv Γ F α st s.heap) (q : DRs F l vs) : DR (F.put s.heap.objs.size { cls := .type "list", data := .seq vs.toArray }) (.lst l) (.ref s.heap.objs.size) :=
  .lst (n := 0) (Fz.put_self _ _ _) rfl rfl (q.mono (Fz.sub_put _ (I.fnone (get_size _ (Nat.le_refl _)))))
theorem bin_A {o : BO} {x y r : AV} {v u : Value} (I : Inv Γ F α st s.heap) (e : BinR o x y r) (hx : VR F α x v) (hy : VR F α y u) (q : Q r st) :
    wpAny (model Γ.prog Γ.w) A (binaryOp o.op v u) (PostE Γ F α s Q) E s := by
  cases e with
  | add => cases hx; cases hy; exact PyProof.Rows.add_int (PostE.here I (VR.d_int _ _) q)
  | sub => cases hx; cases hy; exact PyProof.Rows.sub_int (PostE.here I (VR.d_int _ _) q)
  | mod h => cases hx; cases hy; exact PyProof.Rows.mod_int h (PostE.here I (VR.d_int _ _) q)
  | fdiv h => cases hx; cases hy; exact floordiv_int h.1 (PostE.here I (VR.d_int _ _) q) (.inl (PyProof.noPylong_small h.2))
  | pow =>
    cases hx; cases hy
    refine pow_int (by decide) (by decide +kernel) ?_
    rw [show (10 : Int) ^ (18 : Int).toNat = 1000000000000000000 by decide]
    exact PostE.here I (VR.d_int _ _) q
  | addS h =>
    cases hx; cases hy
    refine PyProof.Rows.add_str (fun t' tk => ?_) (by rw [str_len, str_len]; exact h)
    rw [str_app]
    exact PostE.here I (VR.d_str _ _) q
  | addL h =>
    obtain ⟨l, vs, rfl, hl, qx⟩ := hx.lstAt (s := s) I.agree
    obtain ⟨b, ws, rfl, hb, qy⟩ := hy.lstAt (s := s) I.agree
    obtain ⟨⟨cls, dd, data, sl⟩, ho, hc, n, hd⟩ := id hl
    obtain ⟨⟨cls2, dd2, data2, sl2⟩, ho2, hc2, n2, hd2⟩ := id hb
    cases hc; cases hd; cases hc2; cases hd2
    refine concat_meets ⟨_, ho, rfl⟩ ⟨_, ho2, rfl⟩ noFill_list_add seq_list_add PySem.F.slot_list_add PySem.F.entry_list_add (PySem.F.args_list_add_2 _ _) (list_addW l b vs.toArray ws.toArray n n2 dd dd2 sl sl2 (by rw [List.size_toArray, List.size_toArray, ← qx.length, ← qy.length]; exact h)) ⟨ho, ho2, ?_⟩
    rw [show vs.toArray ++ ws.toArray = (vs ++ ws).toArray from List.append_toArray ..]
    exact post_made I rfl (dr_lst_new I (qx.append qy)) q s.toks
theorem tail_str {value slice : PySem.Expr} {x : List Nat} {t : Tok} {k : Int} {u : Tok} {c : Nat} {Q : Value → Shared → Prop} (hk : -(2 ^ 62) ≤ k ∧ k < 2 ^ 62) (hc : (pyIdx k x.length).bind (x[·]?) = some c)
    (h : Q (.str ⟨[c].toArray⟩ s.toks) { s with toks := s.toks + 1 }) (hs : subscripted slice false (.str ⟨x.toArray⟩ t) (.int k u) = operate [.str ⟨x.toArray⟩ t, .int k u] (getItem (.str ⟨x.toArray⟩ t) (.int k u))) :
    wpAny (model Γ.prog Γ.w) A (subscriptTail value slice (.str ⟨x.toArray⟩ t) (.int k u)) Q E s := by
  refine tail_any (T := "str") (typeIs_str _ _ _) F.slot_str_getitem.lookup (P.getItem_str ?_ ?_ h) hs
  · rw [Bool.or_eq_false_iff, decide_eq_false_iff_not, decide_eq_false_iff_not]; omega
  · rw [str_len]
    unfold pyIdx at hc
    simpa using hc
theorem getItem_listK {l : Addr} {items : List Value} {k : Int} {t : Tok} {x : Value} {j : Nat} {Q : Value → Shared → Prop} (hl : s.heap.IsList l items.toArray) (hk : -(2 ^ 62) ≤ k ∧ k < 2 ^ 62) (hj : pyIdx k items.length = some j) (hx : items[j]? = some x) (h : Q x s) :
    wpAny (model Γ.prog Γ.w) A (getItem (.ref l) (.int k t)) Q E s := by
  unfold pyIdx seqIndex? at hj
  by_cases h0 : k < 0
  · simp only [if_pos h0] at hj
    split at hj
    · rename_i hc
      cases hj
      simp only [Bool.and_eq_true, decide_eq_true_eq] at hc
      refine wpAny_getItem_list_neg hl h0 (by rw [List.size_toArray]; omega) (by omega) ?_ h
      rw [List.size_toArray]; simpa using hx
    · cases hj
  · simp only [if_neg h0] at hj
    split at hj
    · rename_i hc
      cases hj
      exact wpAny_getItem_list hl (by omega) (by omega) (by simpa using hx) h
    · cases hj
theorem idx_A {value slice : PySem.Expr} {x y r : AV} {v u : Value} (I : Inv Γ F α st s.heap) (e : IdxR st x y r) (hx : VR F α x v) (hy : VR F α y u) (q : Q r st)
    (hs : ∀ o i, subscripted slice false o i = operate [o, i] (getItem o i)) : wpAny (model Γ.prog Γ.w) A (subscriptTail value slice v u) (PostE Γ F α s Q) E s := by
  have lst : ∀ {l : List D} {vs : List Value} {k : Int} {d : D}, idxL l k d → DRs F l vs → (-(2 ^ 62) ≤ k ∧ k < 2 ^ 62) ∧ ∃ j v, pyIdx k vs.length = some j ∧ vs[j]? = some v ∧ DR F d v := by
    intro l vs k d ⟨hk, e⟩ r
    obtain ⟨j, h1, h2⟩ := Option.bind_eq_some_iff.mp e
    obtain ⟨v, h3, h4⟩ := r.get j d h2
    exact ⟨by omega, j, v, by rw [← r.length]; exact h1, h3, h4⟩
  cases e with
  | tup e =>
    cases hy
    obtain ⟨a, vs, rfl, ht, qx⟩ := hx.tupAt (s := s) I.agree
    obtain ⟨hk, j, w, h1, h2, h3⟩ := lst e qx
    refine item_tupleT ht (by omega) (by omega) h1 h2 (PostE.here' (av := .d _) I h3 q) (hs _ _)
  | lst e =>
    cases hy
    obtain ⟨a, vs, rfl, ht, qx⟩ := hx.lstAt (s := s) I.agree
    obtain ⟨hk, j, w, h1, h2, h3⟩ := lst e qx
    exact tail_any ht.typeIs slot_list_getitem.lookup (getItem_listK ht hk h1 h2 (PostE.here' (av := .d _) I h3 q)) (hs _ _)
  | ob ho e =>
    cases hy
    obtain ⟨p, hp, rfl, _, vs, hl, qx⟩ := I.obj ho hx
    obtain ⟨hk, j, w, h1, h2, h3⟩ := lst e qx
    exact tail_any hl.isList.typeIs slot_list_getitem.lookup (getItem_listK hl.isList hk h1 h2 (PostE.here' (av := .d _) I h3 q)) (hs _ _)
  | str hk e => cases hx; cases hy; exact tail_str (by omega) e (PostE.here I (VR.d_str _ _) q) (hs _ _)
end
end Mn
end
section
open PySem PySem.W PyProof.Rows PySem.SeqAt
namespace Mn
theorem ofString_codes (x : String) : Str.ofString x = ⟨(codes x).toArray⟩ := by
  unfold codes
  cases h : Str.ofString x with
  | mk c => simp
section
variable {Γ : Wd} {A : Around} {E : Value → Shared → Prop} {s : Shared} {F : Fz} {α : List SA} {st : List AO} {Q : AV → List AO → Prop}
theorem vrs_nil {vs : List Value} (r : VRs F α [] vs) : vs = [] := by cases r; rfl
theorem vrs_one {x : AV} {vs : List Value} (r : VRs F α [x] vs) : ∃ v, vs = [v] ∧ VR F α x v := by
  cases r with | cons a b => cases b; exact ⟨_, rfl, a⟩
theorem vrs_two {x y : AV} {vs : List Value} (r : VRs F α [x, y] vs) : ∃ v u, vs = [v, u] ∧ VR F α x v ∧ VR F α y u := by
  cases r with | cons a b => cases b with | cons c d => cases d; exact ⟨_, _, rfl, a, c⟩
theorem post_keeps {h' : Heap} {tk : Nat} {v : Value} {av : AV} (I : Inv Γ F α st s.heap) (hk : ∀ b o, s.heap.get? b = some o → h'.get? b = some o) (r : VR F α av v) (q : Q av st) : PostE Γ F α s Q v { s with heap := h', toks := tk } :=
  ⟨F, α, st, av, tk, rfl, ext_keeps F α hk, I.keeps hk, r, q⟩
theorem len_L {l : List D} {a : Addr} {us : List Value} (I : Inv Γ F α st s.heap) (ht : s.heap.IsList a us.toArray) (qx : DRs F l us) (hl : l.length ≤ big) (q : Q (.d (.int l.length)) st) : wpAny (model Γ.prog Γ.w) A (call BI.len.val [.ref a]) (PostE Γ F α s Q) E s := by
  refine Calls.call_len_list ht (by rw [List.size_toArray, ← qx.length]; unfold big at hl; omega) ?_
  rw [List.size_toArray, ← qx.length]; exact PostE.here I (VR.d_int _ _) q
theorem bi_A {b : BI} {as : List AV} {r : AV} {vs : List Value} (hh : A.handled = none) (I : Inv Γ F α st s.heap) (e : BiR st b as r) (ha : VRs F α as vs) (q : Q r st) :
    wpAny (model Γ.prog Γ.w) A (call b.val vs) (PostE Γ F α s Q) E s := by
  cases e with
  | int =>
    obtain ⟨v, rfl, hv⟩ := vrs_one ha
    cases hv
    exact call_int_int (PostE.here' I (VR.d_int _ _) q)
  | lenS hl =>
    obtain ⟨v, rfl, hv⟩ := vrs_one ha
    cases hv
    refine P.len_str (by rw [str_len]; unfold big at hl; omega) ?_
    rw [str_len]; exact PostE.here I (VR.d_int _ _) q
  | lenL hl =>
    obtain ⟨v, rfl, hv⟩ := vrs_one ha
    obtain ⟨a, us, rfl, ht, qx⟩ := hv.lstAt (s := s) I.agree
    exact len_L I ht qx hl q
  | lenT hl =>
    obtain ⟨v, rfl, hv⟩ := vrs_one ha
    obtain ⟨a, us, rfl, ht, qx⟩ := hv.tupAt (s := s) I.agree
    refine len_tuple ht (by rw [List.size_toArray, ← qx.length]; unfold big at hl; omega) ?_
    rw [List.size_toArray, ← qx.length]; exact PostE.here I (VR.d_int _ _) q
  | lenO ho hl =>
    obtain ⟨v, rfl, hv⟩ := vrs_one ha
    obtain ⟨p, hp, rfl, _, us, ht, qx⟩ := I.obj ho hv
    exact len_L I ht.isList qx hl q
  | @chr n hl =>
    obtain ⟨v, rfl, hv⟩ := vrs_one ha
    cases hv
    refine P.chr_of_int ?_ (PostE.here I (VR.d_str [n.toNat] _) q)
    rw [Bool.or_eq_false_iff, decide_eq_false_iff_not, decide_eq_false_iff_not]; omega
  | ord =>
    obtain ⟨v, rfl, hv⟩ := vrs_one ha
    cases hv
    exact P.ord_of_char (PostE.here I (VR.d_int _ _) q)
  | @str n hl =>
    obtain ⟨v, rfl, hv⟩ := vrs_one ha
    cases hv
    refine P.str_of_int ?_ ?_
    · rcases Nat.eq_zero_or_pos n.natAbs with h0 | h0
      · rw [h0]; decide
      · refine (Nat.log2_lt (by omega)).mpr (Nat.lt_of_lt_of_le hl (by decide +kernel))
    · rw [ofString_codes]; exact PostE.here I (VR.d_str _ _) q
  | abs n =>
    obtain ⟨v, rfl, hv⟩ := vrs_one ha
    cases hv
    refine call_abs_int fun u tk => ?_
    have : (if n < 0 then -n else n) = (n.natAbs : Int) := by split <;> omega
    rw [this]; exact PostE.here I (VR.d_int _ _) q
  | min x y =>
    obtain ⟨v, u, rfl, hv, hu⟩ := vrs_two ha
    cases hv; cases hu
    refine min_two_ints hh fun h' tk hk => ?_
    refine post_keeps I hk ?_ q
    split <;> exact VR.d_int _ _
  | @tuple l hl =>
    obtain ⟨v, rfl, hv⟩ := vrs_one ha
    obtain ⟨a, us, rfl, ht, qx⟩ := hv.lstAt (s := s) I.agree
    refine call_tuple_list ht (fun h' hk => ?_) (by rw [List.size_toArray, ← qx.length]; exact hl)
    have J := I.keeps hk
    have p := post_made (Q := Q) (s := { s with heap := h' }) (x := .tup l) (o := { cls := .type "tuple", data := .seq us.toArray }) J rfl (dr_tup_new (s := { s with heap := h' }) J qx) q s.toks
    exact PostE.after (s₁ := { s with heap := h' }) ⟨s.toks, rfl⟩ (ext_keeps F α hk) p
theorem upd_list {p : SA} {vs ws : List Value} {l : List D} {n : Nat} {f : Array Value → Array Value} (I : Inv Γ F α st s.heap) {i : Nat} (hp : α[i]? = some p) (hpp : p.1 = p.2)
    (hl : s.heap.get? p.1 = some { cls := .type "list", data := .seq vs.toArray n }) (hf : f vs.toArray = ws.toArray) (qx : DRs F l ws) :
    Inv Γ F α (st.set i (.lst l)) (s.heap.update p.1 (Obj.mapSeq f)) ∧ ExtE F α s.heap F α (s.heap.update p.1 (Obj.mapSeq f)) := by
  have e : ∃ n', (Obj.mapSeq f { cls := .type "list", data := .seq vs.toArray n }) = { cls := .type "list", data := .seq ws.toArray n' } := by
    rw [← hf]; exact ⟨_, rfl⟩
  obtain ⟨n', e⟩ := e
  have g : (s.heap.update p.1 (Obj.mapSeq f)).get? p.1 = some { cls := .type "list", data := .seq ws.toArray n' } := by
    rw [Heap.get?_update_self _ hl (by rw [e]; rfl), e]
  exact I.set hp (.inl rfl) (Heap.SameBut.update _ _ _) ⟨_, g⟩ ⟨hpp, ws, ⟨n', g⟩, qx⟩
theorem erase_last (vs : List Value) : (vs.toArray).eraseIdxIfInBounds (vs.toArray.size - 1) = vs.dropLast.toArray := by
  rcases List.eq_nil_or_concat vs with rfl | ⟨l, a, rfl⟩
  · rfl
  · simp [List.eraseIdxIfInBounds_toArray, List.eraseIdx_append_of_length_le]
theorem DRs.getLast {l : List D} {vs : List Value} (q : DRs F l vs) {x : D} (e : l.getLast? = some x) : ∃ v, vs[vs.length - 1]? = some v ∧ DR F x v ∧ DRs F l.dropLast vs.dropLast := by
  rw [List.getLast?_eq_getElem?] at e
  obtain ⟨v, h1, h2⟩ := q.get _ _ e
  refine ⟨v, by rw [← q.length]; exact h1, h2, ?_⟩
  rw [List.dropLast_eq_take, List.dropLast_eq_take, ← q.length]
  exact q.take _
theorem strs_are {ss : List (List Nat)} : ∀ {vs : List Value}, DRs F (ss.map .str) vs → StrsAre vs (ss.map sKey) := by
  induction ss with
  | nil => intro vs q; cases q; exact .nil
  | cons x l ih => intro vs q; cases q with | cons h1 h2 => cases h1; exact .cons _ _ (ih h2)
theorem join_key (sep : List Nat) : ∀ ss : List (List Nat), Str.join (sKey sep) (ss.map sKey) = sKey (joinN sep ss)
  | [] => rfl
  | [x] => rfl
  | x :: y :: r => by
    show sKey x ++ sKey sep ++ Str.join (sKey sep) ((y :: r).map sKey) = _
    rw [join_key sep (y :: r)]
    show (sKey x ++ sKey sep) ++ sKey _ = sKey (x ++ sep ++ _)
    unfold sKey
    rw [str_app, str_app]
theorem get_A {n : Nat} {o : AO} {k : D} {r : Option D} {v u : Value} {dd : D} {rest : List Value} (I : Inv Γ F α st s.heap) (hu : A.units + 1 < cLine) (ho : st[n]? = some o) (e1 : DG o k r) (hv : VR F α (.ob n) v) (hx : VR F α (.d k) u)
    (hr : (rest = [] ∧ dd = .non) ∨ ∃ u', rest = [u'] ∧ VR F α (.d dd) u') (q : Q (.d (r.getD dd)) st) :
    wpAny (model Γ.prog Γ.w) A (call (.builtin "dict.get") (v :: u :: rest)) (PostE Γ F α s Q) E s := by
  obtain ⟨p, hp, rfl, hro⟩ := I.obj ho hv
  obtain ⟨hm, L⟩ := dict_look (s := s) I.agree e1 hro hx
  rcases hr with ⟨rfl, rfl⟩ | ⟨u', rfl, hy⟩
  · cases L with
    | val knd kk kvs hk hd hq =>
      refine call_meetsIn PySem.F.slot_dict_get hd.typeIs PySem.F.entry_dict_get (PySem.F.args_dict_get_2 _ _) (meets_dict_get knd p.1 hk hm) ⟨_, hd.mapOf, ?_⟩
      cases r with
      | none => rw [hq]; exact PostE.here (av := .d .non) I DR.non q
      | some d => obtain ⟨z, hz, hd'⟩ := hq; rw [hz]; exact PostE.here (av := .d d) I hd' q
    | tup kk b xs e hk hd hq =>
      subst e
      refine call_meetsIn PySem.F.slot_dict_get hd.typeIs PySem.F.entry_dict_get (PySem.F.args_dict_get_2 _ _) (meetsH_dict_get (tupleKind (intKind Γ.prog Γ.w)) p.1 b hm) ⟨hu, kk, xs, hk, hd, ?_⟩
      cases r with
      | none => rw [hq]; exact PostE.here (av := .d .non) I DR.non q
      | some d => obtain ⟨z, hz, hd'⟩ := hq; rw [hz]; exact PostE.here (av := .d d) I hd' q
  · cases L with
    | val knd kk kvs hk hd hq =>
      refine call_meetsIn PySem.F.slot_dict_get hd.typeIs PySem.F.entry_dict_get (PySem.F.args_dict_get_3 _ _ _) (meets_dict_get_default knd p.1 hk hm u') ⟨_, hd.mapOf, ?_⟩
      cases r with
      | none => rw [hq]; exact PostE.here I hy q
      | some d => obtain ⟨z, hz, hd'⟩ := hq; rw [hz]; exact PostE.here (av := .d d) I hd' q
    | tup kk b xs e hk hd hq =>
      subst e
      refine call_meetsIn PySem.F.slot_dict_get hd.typeIs PySem.F.entry_dict_get (PySem.F.args_dict_get_3 _ _ _) (meetsH_dict_get_default (tupleKind (intKind Γ.prog Γ.w)) p.1 b hm u') ⟨hu, kk, xs, hk, hd, ?_⟩
      cases r with
      | none => rw [hq]; exact PostE.here I hy q
      | some d => obtain ⟨z, hz, hd'⟩ := hq; rw [hz]; exact PostE.here (av := .d d) I hd' q
theorem mb_A {m : MB} {a : AV} {as : List AV} {r : AV} {st' : List AO} {v : Value} {vs : List Value} (hu : A.units + 1 < cLine) (I : Inv Γ F α st s.heap) (e : MbR st m a as r st') (hv : VR F α a v) (ha : VRs F α as vs) (q : Q r st') :
    wpAny (model Γ.prog Γ.w) A (call (.builtin m.id) (v :: vs)) (PostE Γ F α s Q) E s := by
  cases e with
  | append x ho hl =>
    obtain ⟨u, rfl, hx⟩ := vrs_one ha
    obtain ⟨p, hp, rfl, hpp, us, ⟨k, hg⟩, qx⟩ := I.obj ho hv
    obtain ⟨J, X⟩ := upd_list I hp hpp hg (f := fun xs => xs.push u) (ws := us ++ [u]) (l := _ ++ [x]) (List.push_toArray ..) (qx.append (.cons hx .nil))
    refine call_meets PySem.F.slot_list_append ⟨_, hg, rfl⟩ PySem.F.entry_list_append (PySem.F.args_list_append_2 _ _) (list_append p.1 us.toArray k u (by rw [List.size_toArray, ← qx.length]; exact hl)) ⟨hg, ?_⟩
    exact ⟨F, α, _, .d .non, s.toks, rfl, X, J, DR.non, q⟩
  | @pop n l x ho hl e1 =>
    cases vrs_nil ha
    obtain ⟨p, hp, rfl, hpp, us, ⟨k, hg⟩, qx⟩ := I.obj ho hv
    obtain ⟨y, h1, h2, h3⟩ := qx.getLast e1
    obtain ⟨J, X⟩ := upd_list I hp hpp hg (f := fun xs => xs.eraseIdxIfInBounds (us.toArray.size - 1)) (ws := us.dropLast) (l := l.dropLast) (erase_last us) h3
    refine call_meets PySem.F.slot_list_pop ⟨_, hg, rfl⟩ PySem.F.entry_list_pop (PySem.F.args_list_pop_1 _) (MeetsSeq.list_pop_last p.1 us.toArray k y (by simpa using h1) (by rw [List.size_toArray, ← qx.length]; exact hl)) ⟨hg, ?_⟩
    exact ⟨F, α, _, .d x, s.toks, rfl, X, J, h2, q⟩
  | @reverse n l ho hl =>
    cases vrs_nil ha
    obtain ⟨p, hp, rfl, hpp, us, ⟨k, hg⟩, qx⟩ := I.obj ho hv
    obtain ⟨J, X⟩ := upd_list I hp hpp hg (f := fun xs => xs.reverse) (ws := us.reverse) (l := l.reverse) (List.reverse_toArray ..) qx.reverse
    refine call_meets PySem.F.slot_list_reverse ⟨_, hg, rfl⟩ PySem.F.entry_list_reverse (PySem.F.args_list_reverse_1 _) (AutoSeq1.list_reverse_list_0 p.1 us.toArray k (by rw [List.size_toArray, ← qx.length]; exact hl)) ⟨hg, ?_⟩
    exact ⟨F, α, _, .d .non, s.toks, rfl, X, J, DR.non, q⟩
  | startswith x y =>
    obtain ⟨u, rfl, hx⟩ := vrs_one ha
    cases hv; cases hx
    refine SC.startswith ?_
    have : Txt.startswith ⟨x.toArray⟩ ⟨y.toArray⟩ = (decide (y.length ≤ x.length) && x.take y.length == y) := by
      unfold Txt.startswith
      rw [StrLaws.subAt_eq, str_len, str_len]
      simp
    rw [this]; exact PostE.here' I (VR.d_boo _) q
  | get ho e1 =>
    obtain ⟨u, rfl, hx⟩ := vrs_one ha
    exact get_A I hu ho e1 hv hx (.inl ⟨rfl, rfl⟩) q
  | getE dd ho e1 =>
    obtain ⟨u, u', rfl, hx, hy⟩ := vrs_two ha
    exact get_A I hu ho e1 hv hx (.inr ⟨u', rfl, hy⟩) q
  | @join n ss sep ho hl =>
    obtain ⟨u, rfl, hx⟩ := vrs_one ha
    cases hv
    obtain ⟨p, hp, rfl, hpp, us, hg, qx⟩ := I.obj ho hx
    refine join_list hg.isList (ys := ss.map sKey) (strs_are qx) ?_ fun t' k => ?_
    · rw [List.map_map, List.length_map, str_len, show (ss.map ((fun x => x.length) ∘ sKey)) = ss.map (·.length) from List.map_congr_left fun x _ => str_len x]
      exact hl
    · show PostE Γ F α s Q (.str (Builtin.Str.glued (sKey sep) (ss.map sKey)) t') _
      rw [StrLaws.glued_eq_join, join_key]
      exact PostE.here I (VR.d_str _ _) q
end
end Mn
end
section
open PySem PySem.W PyProof.Rows PySem.SeqAt
namespace Mn
structure ClsOK (Γ : Wd) (c : Nat) (C : Addr) : Prop where
  ga : findIn Γ.K (.ref C) "__getattribute__" = some (some (.builtin "object.__getattribute__"))
  gt : findIn Γ.K (.ref C) "__getattr__" = some none
  sa : findIn Γ.K (.ref C) "__setattr__" = some (some (.builtin "object.__setattr__"))
  hd : hasDictIn Γ.K C = true
  po : plainOver Γ.K C = true
  fl : ∀ f, f < Γ.P.flds.length → findIn Γ.K (.ref C) (Γ.P.fld f) = some none
  mks : makesIn Γ.K C = true
  kp : keepIn Γ.K (.ref C) = true
  mt : ∀ m f, mthOf Γ.P c m = some f → ∃ fi, Γ.P.fns[f]? = some fi ∧ findIn Γ.K (.ref C) (Str.ofString (Γ.P.mths.getD m "")) = some (some (.ref fi.addr)) ∧ typeIn Γ.K (.ref fi.addr) = some (.type "function") ∧ (∀ g, g < Γ.P.flds.length → Γ.P.fld g ≠ Str.ofString (Γ.P.mths.getD m ""))
  ini : ∃ f fi, Γ.P.inits[c]? = some f ∧ Γ.P.fns[f]? = some fi ∧ findIn Γ.K (.ref C) "__init__" = some (some (.ref fi.addr)) ∧ typeIn Γ.K (.ref fi.addr) = some (.type "function")
structure FnOK (Γ : Wd) (fi : FnI) : Prop where
  def_ : ∃ o fd, Γ.B.get? fi.addr = some o ∧ o.data = .func fd ∧ fd.scope = fi.scope ∧ fd.body = .stmts fi.body ∧ fd.globals = mainGlobals ∧ fd.closure = [] ∧ fd.builtins = builtinsNs ∧ Γ.B.CodeRec fd.code fd.qualname ∧
    (∀ (s : Shared) (vs : List Value), (∀ b o, Γ.B.get? b = some o → s.heap.get? b = some o) → vs.length ≤ fi.npar → fi.npar ≤ vs.length + fi.defs.length →
      ∃ dv, DRs (fun a => Γ.B.get? a) (fi.defs.drop (vs.length + fi.defs.length - fi.npar)) dv ∧ BindsTo s fd ⟨vs, []⟩ (((fi.ns.take fi.npar).map Str.ofString).zip (vs ++ dv)))
  kp : keepIn Γ.K (.ref fi.addr) = true
  kind : fi.scope.kind = .function
  co : fi.scope.isCoroutine = false
  gen : fi.scope.isGenerator = false
  nd : (fi.ns.map Str.ofString).Nodup
  dbg : ∀ x ∈ fi.ns, (Str.ofString x == ("__debug__" : Str)) = false ∧ (Str.ofString x == ("__classdict__" : Str)) = false
  np : fi.npar ≤ fi.ns.length
  par : ∀ x ∈ fi.ns, fi.scope.names.lookup (Str.ofString x) = some .local
  cel : ∀ x ∈ fi.scope.names, x.2 ≠ .cell
structure WdOK (Γ : Wd) : Prop where
  kin : Γ.K.In Γ.B
  ng : Γ.B.Ns mainGlobals Γ.mg
  nb : Γ.B.Ns builtinsNs Γ.mb
  lim : Γ.B.NoLimit
  gt : ∀ (k : Nat) (x : String) (d : D), Γ.P.gtab[k]? = some (x, d) → (Str.ofString x == ("__debug__" : Str)) = false ∧ ∃ v, Γ.mg (Str.ofString x) = some v ∧ DR (fun a => Γ.B.get? a) d v
  bt : ∀ b : BI, Γ.mg (Str.ofString b.name) = none ∧ Γ.mb (Str.ofString b.name) = some b.val
  br : Γ.mg (Str.ofString "range") = none ∧ Γ.mb (Str.ofString "range") = some (.type "range")
  bv : Γ.mg (Str.ofString "reversed") = none ∧ Γ.mb (Str.ofString "reversed") = some (.type "reversed")
  fn : ∀ (f : Nat) (fi : FnI), Γ.P.fns[f]? = some fi → FnOK Γ fi
  fnG : ∀ (f : Nat) (fi : FnI), Γ.P.fns[f]? = some fi → fi.gname ≠ "" → (Str.ofString fi.gname == ("__debug__" : Str)) = false ∧ Γ.mg (Str.ofString fi.gname) = some (.ref fi.addr)
  cl : ∀ (c : Nat) (C : Addr), Γ.P.clss[c]? = some C → ClsOK Γ c C
  clG : ∀ (c : Nat) (C : Addr) (x : String), Γ.P.clss[c]? = some C → Γ.P.clsN[c]? = some x → (Str.ofString x == ("__debug__" : Str)) = false ∧ Γ.mg (Str.ofString x) = some (.ref C)
  finj : ∀ f g : Nat, f < Γ.P.flds.length → g < Γ.P.flds.length → Γ.P.fld f = Γ.P.fld g → f = g
  mlow : @LT.lt Nat _ sysModules Γ.B.objs.size
section
variable {Γ : Wd} {A : Around} {E : Value → Shared → Prop} {s : Shared} {F : Fz} {α : List SA} {st : List AO} {Q : AV → List AO → Prop}
theorem isStr_eq {k : Value} {x y : Str} (h : k.isStr x = true) : k.isStr y = (x == y) := by
  cases k <;> simp [Value.isStr] at h ⊢
  subst h; rfl
theorem isStr_noRef {e : DictEntry} {x : Str} (h : e.key.isStr x = true) : e.refKey = false := by
  unfold DictEntry.refKey
  revert h
  cases e.key <;> simp [Value.isStr]
theorem fields_any {fs : List (Nat × AV)} {es : List DictEntry} (r : FieldsR Γ.P F α fs es) : es.any (·.refKey) = false := by
  induction r with
  | nil => rfl
  | cons _ h _ _ ih => rw [List.any_cons, isStr_noRef h, ih]; rfl
theorem fields_get (W : WdOK Γ) {f : Nat} (hf : f < Γ.P.flds.length) {fs : List (Nat × AV)} {es : List DictEntry} (r : FieldsR Γ.P F α fs es) :
    (match fget fs f with | some av => ∃ v, getL (Γ.P.fld f) es = some (some v) ∧ VR F α av v | none => getL (Γ.P.fld f) es = some none) := by
  have key : (match fget fs f with | some av => ∃ e, es.find? (·.key.isStr (Γ.P.fld f)) = some e ∧ VR F α av e.val | none => es.find? (·.key.isStr (Γ.P.fld f)) = none) := by
    induction r with
    | nil => rfl
    | @cons g av fs e es hg hk hv r ih =>
      unfold fget
      rw [List.find?_cons, isStr_eq hk]
      by_cases h : g = f
      · subst h
        simp only [if_true, beq_self_eq_true]
        exact ⟨e, rfl, hv⟩
      · have : (Γ.P.fld g == Γ.P.fld f) = false := by
          rw [beq_eq_false_iff_ne]; exact fun e => h (W.finj _ _ hg hf e)
        simp only [if_neg h, this]
        exact ih
  unfold getL
  cases h : fget fs f with
  | none =>
    rw [h] at key
    rw [key, fields_any r]; rfl
  | some av =>
    rw [h] at key
    obtain ⟨e, he, hv⟩ := key
    rw [he]
    exact ⟨_, rfl, hv⟩
theorem fields_no {x : Str} (hx : ∀ g, g < Γ.P.flds.length → Γ.P.fld g ≠ x) {fs : List (Nat × AV)} {es : List DictEntry} (r : FieldsR Γ.P F α fs es) : getL x es = some none := by
  have key : es.find? (·.key.isStr x) = none := by
    induction r with
    | nil => rfl
    | @cons g av fs e es hg hk hv r ih =>
      rw [List.find?_cons, isStr_eq hk]
      have : (Γ.P.fld g == x) = false := by rw [beq_eq_false_iff_ne]; exact hx g hg
      rw [this]; exact ih
  unfold getL
  rw [key, fields_any r]; rfl
theorem fields_put (W : WdOK Γ) {f : Nat} (hf : f < Γ.P.flds.length) {av : AV} {v : Value} (hv : VR F α av v) {hsh : Int} {t : Tok} {fs : List (Nat × AV)} {es : List DictEntry} (r : FieldsR Γ.P F α fs es) :
    FieldsR Γ.P F α (fput fs f av) (putL (Γ.P.fld f) hsh (.str (Γ.P.fld f) t) v es) ∧ (putL (Γ.P.fld f) hsh (.str (Γ.P.fld f) t) v es).length ≤ fs.length + 1 := by
  induction r with
  | nil => exact ⟨.cons hf (by simp [Value.isStr]) hv .nil, by simp [putL]⟩
  | @cons g av' fs e es hg hk hv' r ih =>
    unfold fput putL
    rw [isStr_eq hk]
    have len : ∀ {fs : List (Nat × AV)} {es : List DictEntry}, FieldsR Γ.P F α fs es → es.length = fs.length := by
      intro fs es r
      induction r with
      | nil => rfl
      | cons _ _ _ _ ih => simp [ih]
    by_cases h : g = f
    · subst h
      simp only [if_true, beq_self_eq_true]
      exact ⟨.cons hg hk hv r, by simp [len r]⟩
    · have : (Γ.P.fld g == Γ.P.fld f) = false := by
        rw [beq_eq_false_iff_ne]; exact fun e => h (W.finj _ _ hg hf e)
      simp only [if_neg h, this, Bool.false_eq_true, if_false]
      exact ⟨.cons hg hk hv' ih.1, by simp only [List.length_cons]; omega⟩
theorem vr_handed {av : AV} {v : Value} (h : VR F α av v) : handedIn v = true := by
  cases av with
  | d x => cases h <;> rfl
  | ob n => obtain ⟨p, _, rfl⟩ := h; rfl
  | own l => exact h.elim
theorem kin_here (W : WdOK Γ) (I : Inv Γ F α st s.heap) : Γ.K.In s.heap := W.kin.keeps I.bkeep
theorem Inv.inst (I : Inv Γ F α st s.heap) {av : AV} {v : Value} {c : Nat} {fs : List (Nat × AV)} (e : insOf st av = some (c, fs)) (hv : VR F α av v) :
    ∃ n p C es k, av = .ob n ∧ st[n]? = some (.ins c fs) ∧ α[n]? = some p ∧ v = .ref p.1 ∧ p.1 ≠ p.2 ∧ Γ.P.clss[c]? = some C ∧ s.heap.get? p.1 = some (instObj C p.2) ∧ s.heap.get? p.2 = some (dictOf es k) ∧ FieldsR Γ.P F α fs es := by
  unfold insOf at e
  split at e
  · split at e
    · rename_i n _ c' fs' ho
      cases e
      obtain ⟨p, hp, rfl, hne, C, hC, h1, es, k, h2, r⟩ := I.obj ho hv
      exact ⟨n, p, C, es, k, rfl, ho, hp, rfl, hne, hC, h1, h2, r⟩
    · cases e
  · cases e
theorem attr_A (W : WdOK Γ) (I : Inv Γ F α st s.heap) {av r : AV} {v : Value} {c f : Nat} {fs : List (Nat × AV)} (hf : f < Γ.P.flds.length) (e : insOf st av = some (c, fs)) (hg : fget fs f = some r) (hv : VR F α av v) (q : Q r st) :
    wpAny (model Γ.prog Γ.w) A (getAttr v (Γ.P.fld f) true) (PostE Γ F α s Q) E s := by
  obtain ⟨n, p, C, es, k, rfl, ho, hp, rfl, hne, hC, h1, h2, hr⟩ := I.inst e hv
  have K := W.cl c C hC
  have X := kin_here W I
  have IA : InstAt s.heap p.1 (instObj C p.2) C (some (dictOf es k)) := ⟨h1, rfl, rfl, h2⟩
  have g := fields_get W hf hr
  rw [hg] at g
  obtain ⟨u, hu, hur⟩ := g
  exact get_value X IA K.ga (findObj_own K.hd (K.fl f hf) rfl hu) (vr_handed hur) (PostE.here I hur q)
theorem method_A (W : WdOK Γ) (I : Inv Γ F α st s.heap) {av : AV} {v : Value} {c m f : Nat} {fs : List (Nat × AV)} (e : insOf st av = some (c, fs)) (hm : mthOf Γ.P c m = some f) (hv : VR F α av v) {pl : Sem Bool} {Q : Value × List Value → Shared → Prop}
    (h : ∀ fi, Γ.P.fns[f]? = some fi → Q (.ref fi.addr, [v]) s) : wpAny (model Γ.prog Γ.w) A (getMethod v (Str.ofString (Γ.P.mths.getD m "")) pl) Q E s := by
  obtain ⟨n, p, C, es, k, rfl, ho, hp, rfl, hne, hC, h1, h2, hr⟩ := I.inst e hv
  have K := W.cl c C hC
  have X := kin_here W I
  have IA : InstAt s.heap p.1 (instObj C p.2) C (some (dictOf es k)) := ⟨h1, rfl, rfl, h2⟩
  obtain ⟨fi, hfi, hf, ht, hno⟩ := K.mt m f hm
  refine method_fn X IA K.ga K.gt hf ht ?_ (h fi hfi)
  have := fields_no hno hr
  show (getL _ es).map _ = _
  rw [this]; rfl
theorem setattr_A (W : WdOK Γ) (I : Inv Γ F α st s.heap) {n c f : Nat} {fs : List (Nat × AV)} {p : SA} {av : AV} {v : Value} (hf : f < Γ.P.flds.length) (ho : st[n]? = some (.ins c fs)) (hp : α[n]? = some p) (hv : VR F α av v) (hz : fs.length ≤ 900) {Q : Unit → Shared → Prop}
    (h : ∀ h' tk, Inv Γ F α (st.set n (.ins c (fput fs f av))) h' → ExtE F α s.heap F α h' → Q () { s with heap := h', toks := tk }) : wpAny (model Γ.prog Γ.w) A (setAttr (.ref p.1) (Γ.P.fld f) v) Q E s := by
  obtain ⟨hne, C, hC, h1, es, k, h2, hr⟩ := I.rep n p _ hp ho
  have K := W.cl c C hC
  have X := kin_here W I
  have IA : InstAt s.heap p.1 (instObj C p.2) C (some (dictOf es k)) := ⟨h1, rfl, rfl, h2⟩
  refine set_plain X IA K.sa ?_
  have ht : takerIn Γ.K C (Γ.P.fld f) = some none := by unfold takerIn; rw [K.fl f hf]; rfl
  refine osa_open (s := { s with toks := s.toks + 1 }) X IA K.po ht fun b => ?_
  obtain ⟨cd, hc, hd'⟩ := any_some K.hd
  obtain ⟨r1, r2⟩ := fields_put W hf hv (hsh := PyData.keyHash Γ.w.params (Γ.P.fld f)) (t := s.toks + 1) hr
  have e : Obj.putName (Γ.P.fld f) (PyData.keyHash Γ.w.params (Γ.P.fld f)) (.str (Γ.P.fld f) (s.toks + 1)) v (dictOf es k) = dictOf (putL (Γ.P.fld f) (PyData.keyHash Γ.w.params (Γ.P.fld f)) (.str (Γ.P.fld f) (s.toks + 1)) v es) (putN (Γ.P.fld f) es k) := putName_dict ..
  have g2 : (s.heap.update p.2 (Obj.putName (Γ.P.fld f) (PyData.keyHash Γ.w.params (Γ.P.fld f)) (.str (Γ.P.fld f) (s.toks + 1)) v)).get? p.2 = some (dictOf (putL (Γ.P.fld f) (PyData.keyHash Γ.w.params (Γ.P.fld f)) (.str (Γ.P.fld f) (s.toks + 1)) v es) (putN (Γ.P.fld f) es k)) := by
    rw [Heap.get?_update_self _ h2 (by rw [e]; rfl), e]
  have g1 : (s.heap.update p.2 (Obj.putName (Γ.P.fld f) (PyData.keyHash Γ.w.params (Γ.P.fld f)) (.str (Γ.P.fld f) (s.toks + 1)) v)).get? p.1 = some (instObj C p.2) := by
    rw [Heap.get?_update_other _ _ hne.symm]; exact h1
  obtain ⟨J, Xx⟩ := I.set hp (.inr rfl) (Heap.SameBut.update _ _ _) ⟨_, g2⟩ (ao := .ins c (fput fs f av)) ⟨hne, C, hC, g1, _, _, g2, r1⟩
  refine wpAny_bind (wpAny_pure (wpAny_bind (wpAny_bind (wpAny_loadPart h1 (wpAny_bind (Looks.here (looks_clsIn X hc) ?_))))))
  rw [hd']
  refine wpAny_pure (a := some p.2) (wpAny_bind (wpAny_pure (wpAny_bind ?_)))
  unfold nsSet
  refine wpAny_bind (wpAny_bind (wpAny_askSetting (wpAny_pure (wpAny_bind (wpAny_mkText (wpAny_bind (wpAny_loadPart h2 ?_)))))))
  have c0 : (!(es.toArray).any (·.key.isStr (Γ.P.fld f)) && (es.toArray).any (·.refKey)) = false := by
    have : (es.toArray).any (·.refKey) = false := by rw [List.any_toArray]; exact fields_any hr
    rw [this, Bool.and_false]
  dsimp only
  rw [aRefKeyMayBeTheName_at, c0]
  refine wpAny_updatePart h2 ?_
  refine wpAny_bind (wpAny_lookBehind g2 ?_ ?_)
  · exact pastItsLine_dict (by rw [List.size_toArray, sizeLine_eq]; omega)
  · exact wpAny_pure (h _ _ J Xx)
end
end Mn
end
section
open PySem PySem.W PyProof.Rows PySem.SeqAt
namespace Mn
section
variable {Γ : Wd} {A : Around} {E : Value → Shared → Prop} {s : Shared} {F : Fz} {α : List SA} {st : List AO}
theorem KV.length {κ κ' : Type} {f : κ → κ'} {es : List (κ × D)} {kvs : List (κ' × Value)} (h : KV F f es kvs) : es.length = kvs.length := by
  induction h with
  | nil => rfl
  | cons _ _ ih => exact congrArg Nat.succ ih
theorem KVH.length {es : List (List Int × D)} {kvs : List (List Int × Addr × Value)} (h : KVH F es kvs) : es.length = kvs.length := by
  induction h with
  | nil => rfl
  | cons _ _ _ ih => exact congrArg Nat.succ ih
noncomputable def putKV {κ : Type} [DecidableEq κ] : List (κ × Value) → κ → Value → List (κ × Value)
  | [], k, v => [(k, v)]
  | (k', u) :: r, k, v => if k' = k then (k', v) :: r else (k', u) :: putKV r k v
theorem stored_put {κ : Type} [DecidableEq κ] (k : κ) (v : Value) {kvs : List (κ × Value)} (hn : (kvs.map (·.1)).Nodup) : stored kvs k v = putKV kvs k v := by
  induction kvs with
  | nil => rfl
  | cons x r ih =>
    obtain ⟨k', u⟩ := x
    rw [List.map_cons, List.nodup_cons] at hn
    have ih := ih hn.2
    unfold putKV
    by_cases h : k' = k
    · subst h
      rw [if_pos rfl]
      unfold stored
      rw [List.any_cons, decide_eq_true rfl, Bool.true_or, if_pos rfl, List.map_cons, if_pos rfl, map_store_of_not_mem r k' v hn.1]
    · rw [if_neg h, ← ih]
      unfold stored
      rw [List.any_cons, decide_eq_false h, Bool.false_or]
      by_cases hr : (r.any fun kv => decide (kv.1 = k)) = true
      · rw [if_pos hr, if_pos hr, List.map_cons, if_neg h]
      · rw [if_neg hr, if_neg hr]; rfl
theorem KV.put {κ κ' : Type} [DecidableEq κ] [DecidableEq κ'] {f : κ → κ'} (hf : ∀ a b, f a = f b → a = b) {k : κ} {d : D} {v : Value} (hv : DR F d v) {es : List (κ × D)} {kvs : List (κ' × Value)} (h : KV F f es kvs) : KV F f (aput es k d) (putKV kvs (f k) v) := by
  induction h with
  | nil => exact .cons hv .nil
  | @cons k' _ _ _ _ a b ih =>
    unfold aput putKV
    by_cases h : k' = k
    · subst h; rw [if_pos rfl, if_pos rfl]; exact .cons hv b
    · rw [if_neg h, if_neg (fun e => h (hf _ _ e))]; exact .cons a ih
theorem KV.del {κ κ' : Type} [DecidableEq κ] [DecidableEq κ'] {f : κ → κ'} (hf : ∀ a b, f a = f b → a = b) {k : κ} {es : List (κ × D)} {kvs : List (κ' × Value)} (h : KV F f es kvs) : KV F f (adel es k) (without kvs (f k)) := by
  induction h with
  | nil => exact .nil
  | @cons k' _ _ _ _ a b ih =>
    unfold adel without at ih ⊢
    rw [List.filter_cons, List.filter_cons]
    by_cases h : k' = k
    · rw [if_neg (by simp [h]), if_neg (by simp [h])]; exact ih
    · have h' : f k' ≠ f k := fun e => h (hf _ _ e)
      rw [if_pos (decide_eq_true h), if_pos (decide_eq_true h')]; exact .cons a ih
noncomputable def putKVH : List (List Int × Addr × Value) → List Int → Addr → Value → List (List Int × Addr × Value)
  | [], k, a, v => [(k, a, v)]
  | (k', b, u) :: r, k, a, v => if k' = k then (k', b, v) :: r else (k', b, u) :: putKVH r k a v
theorem storedH_put (k : List Int) (a : Addr) (v : Value) {xs : List (List Int × Addr × Value)} (hn : (xs.map (·.1)).Nodup) : storedH xs k a v = putKVH xs k a v := by
  induction xs with
  | nil => rfl
  | cons x r ih =>
    obtain ⟨k', b, u⟩ := x
    rw [List.map_cons, List.nodup_cons] at hn
    have ih := ih hn.2
    unfold putKVH
    by_cases h : k' = k
    · subst h
      rw [if_pos rfl]
      unfold storedH
      rw [if_pos (by simp [atKey]), List.map_cons, map_putAt_of_not_mem r k' v hn.1]
      simp [putAt]
    · rw [if_neg h, ← ih]
      unfold storedH
      have e : atKey ((k', b, u) :: r) k = atKey r k := by unfold atKey; rw [List.find?_cons, decide_eq_false h]
      rw [e]
      split
      · rw [List.map_cons]; simp [putAt, h]
      · rfl
theorem KVH.put {k : List Int} {d : D} {a : Addr} {v : Value} (ha : DR F (.tup (k.map .int)) (.ref a)) (hv : DR F d v) {es : List (List Int × D)} {xs : List (List Int × Addr × Value)} (h : KVH F es xs) : KVH F (aput es k d) (putKVH xs k a v) := by
  induction h with
  | nil => exact .cons ha hv .nil
  | cons x y b ih =>
    rename_i k' _ _ _ _ _
    unfold aput putKVH
    by_cases h : k' = k
    · subst h; rw [if_pos rfl, if_pos rfl]; exact .cons x hv b
    · rw [if_neg h, if_neg h]; exact .cons x y ih
theorem dictOf_nodup {K : Type} [DecidableEq K] {knd : KeyKind Γ.prog Γ.w K} {h : Heap} {a : Addr} {kvs : List (K × Value)} (x : h.DictOf knd a kvs) : (kvs.map (·.1)).Nodup := let ⟨_, _, _, _, _, _, _, _, n⟩ := x; n
theorem dictOf_some {K : Type} [DecidableEq K] {knd : KeyKind Γ.prog Γ.w K} {h : Heap} {a : Addr} {kvs : List (K × Value)} (x : h.DictOf knd a kvs) : ∃ o, h.get? a = some o := let ⟨o, _, _, e, _⟩ := x; ⟨o, e⟩
theorem setItem_A (I : Inv Γ F α st s.heap) (hu : A.units + 1 < cLine) {n : Nat} {p : SA} {o o' : AO} {k d : D} {kv v : Value} (ho : st[n]? = some o) (hp : α[n]? = some p) (e : DS o k d o') (hk : DR F k kv) (hv : DR F d v) {Q : Unit → Shared → Prop}
    (h : ∀ h' tk, Inv Γ F α (st.set n o') h' → ExtE F α s.heap F α h' → Q () { s with heap := h', toks := tk }) : wpAny (model Γ.prog Γ.w) A (setItem (.ref p.1) kv v) Q E s := by
  have R := I.rep n p o hp ho
  have hStr : ∀ {es : List (List Nat × D)} {kvs : List (Str × Value)} {x : List Nat} {t : Tok}, p.1 = p.2 → (p.1 == sysModules) = false → s.heap.DictOf (strKind Γ.prog Γ.w) p.1 kvs → KV F sKey es kvs → kvs.length ≤ sizeLine → kv = .str (sKey x) t → o' = .dS (aput es x d) → wpAny (model Γ.prog Γ.w) A (setItem (.ref p.1) kv v) Q E s := by
    intro es kvs x t h1 h2 hm q hz e e'
    subst e e'
    refine wpAny_setItem_pairs (hsz := hz) (strKind_is _ _ _ _) hm fun h' hm' hs => ?_
    have hq := q.put (fun _ _ => sKey_inj) (k := x) hv
    rw [← stored_put _ _ (dictOf_nodup hm)] at hq
    obtain ⟨J, X⟩ := I.set hp (.inl rfl) hs (dictOf_some hm') (ao := .dS (aput es x d)) ⟨h1, h2, _, hm', hq⟩
    exact h _ _ J X
  have hInt : ∀ {es : List (Int × D)} {kvs : List (Int × Value)} {x : Int} {t : Tok}, p.1 = p.2 → (p.1 == sysModules) = false → s.heap.DictOf (intKind Γ.prog Γ.w) p.1 kvs → KV F id es kvs → kvs.length ≤ sizeLine → kv = .int x t → o' = .dI (aput es x d) → wpAny (model Γ.prog Γ.w) A (setItem (.ref p.1) kv v) Q E s := by
    intro es kvs x t h1 h2 hm q hz e e'
    subst e e'
    refine wpAny_setItem_pairs (hsz := hz) (intKind_is _ _ _ _) hm fun h' hm' hs => ?_
    have hq := q.put (fun _ _ e => e) (k := x) hv
    rw [← stored_put _ _ (dictOf_nodup hm)] at hq
    obtain ⟨J, X⟩ := I.set hp (.inl rfl) hs (dictOf_some hm') (ao := .dI (aput es x d)) ⟨h1, h2, _, hm', hq⟩
    exact h _ _ J X
  have hTup : ∀ {es : List (List Int × D)} {xs : List (List Int × Addr × Value)} {x : List Int} {a : Addr}, p.1 = p.2 → (p.1 == sysModules) = false → s.heap.DictOfH (tupleKind (intKind Γ.prog Γ.w)) p.1 xs → KVH F es xs → xs.length ≤ sizeLine → kv = .ref a → IsTupleKey (intKind Γ.prog Γ.w) s.heap x a → DR F (.tup (x.map .int)) kv → o' = .dP (aput es x d) → wpAny (model Γ.prog Γ.w) A (setItem (.ref p.1) kv v) Q E s := by
    intro es xs x a h1 h2 hm q hz e hk2 hd e'
    subst e e'
    refine wpAny_setItem_heap (knd := tupleKind (intKind Γ.prog Γ.w)) (hsz := hz) hu hk2 hm fun h' hm' hs => ?_
    have hq := q.put hd hv
    rw [← storedH_put _ _ _ (by obtain ⟨_, _, _, _, _, _, _, _, n⟩ := hm; exact n)] at hq
    obtain ⟨J, X⟩ := I.set hp (.inl rfl) hs (by obtain ⟨o, _, _, e, _⟩ := hm'; exact ⟨o, e⟩) (ao := .dP (aput es x d)) ⟨h1, h2, _, hm', hq⟩
    exact h _ _ J X
  cases e with
  | s0 =>
    cases hk; obtain ⟨h1, h2, m, hg⟩ := R
    exact hStr (es := []) (kvs := []) h1 h2 (empty_dictOf _ hg) .nil (Nat.zero_le _) rfl rfl
  | i0 =>
    cases hk; obtain ⟨h1, h2, m, hg⟩ := R
    exact hInt (es := []) (kvs := []) h1 h2 (empty_dictOf _ hg) .nil (Nat.zero_le _) rfl rfl
  | t0 =>
    obtain ⟨a, rfl, hk'⟩ := isKey_of (Γ := Γ) (s := s) I.agree hk
    obtain ⟨h1, h2, m, hg⟩ := R
    exact hTup (es := []) (xs := []) h1 h2 (empty_dictOfH hg) .nil (Nat.zero_le _) rfl hk' hk rfl
  | s _ _ hz =>
    cases hk; obtain ⟨h1, h2, kvs, hm, q⟩ := R
    exact hStr h1 h2 hm q (by rw [← q.length]; exact hz) rfl rfl
  | i _ _ hz =>
    cases hk; obtain ⟨h1, h2, kvs, hm, q⟩ := R
    exact hInt h1 h2 hm q (by rw [← q.length]; exact hz) rfl rfl
  | t _ _ hz =>
    obtain ⟨a, rfl, hk'⟩ := isKey_of (Γ := Γ) (s := s) I.agree hk
    obtain ⟨h1, h2, xs, hm, q⟩ := R
    exact hTup h1 h2 hm q (by rw [← q.length]; exact hz) rfl hk' hk rfl
theorem delItem_A (I : Inv Γ F α st s.heap) {n : Nat} {p : SA} {es : List (Int × D)} {k : Int} {t : Tok} (ho : st[n]? = some (.dI es)) (hp : α[n]? = some p) (hz : es.length ≤ big) (hl : (aget es k).isSome = true) {Q : Unit → Shared → Prop}
    (h : ∀ h' tk, Inv Γ F α (st.set n (.dI (adel es k))) h' → ExtE F α s.heap F α h' → Q () { s with heap := h', toks := tk }) : wpAny (model Γ.prog Γ.w) A (delItem (.ref p.1) (.int k t)) Q E s := by
  obtain ⟨h1, h2, kvs, hD, q⟩ := I.rep n p _ hp ho
  have hkey := intKind_is Γ.prog Γ.w k t
  unfold delItem
  try with_reducible refine wpAny_holding ?_
  refine wpAny_bind (wpAny_sequenceKey hD.typeIs (by decide) ?_)
  refine wpAny_bind (wpAny_callSpecial?_slot (name := Str.ofString "__delitem__") hD.typeIs PySem.F.slot_dict_delitem
    (call_meetsIn PySem.F.slot_dict_delitem hD.typeIs PySem.F.entry_dict_delitem (PySem.F.args_dict_delitem_2 _ _) (meets_dict_delitem_pairs (intKind Γ.prog Γ.w) p.1 hkey) ⟨kvs, hD, (by rw [← q.length]; exact hz), ?_, fun h' hmm hs => ?_⟩))
  · have := find_KV (fun _ _ e => e) k q
    cases e : aget es k with
    | none => rw [e] at hl; cases hl
    | some d => rw [e] at this; obtain ⟨v, hv, _⟩ := this; have hv' : valueAt kvs k = some v := hv; rw [hv']; rfl
  · have hq := q.del (fun _ _ e => e) (k := k)
    obtain ⟨J, X⟩ := I.set hp (.inl rfl) hs (dictOf_some hmm) (ao := .dI (adel es k)) ⟨h1, h2, _, hmm, hq⟩
    exact wpAny_pure (h _ _ J X)
end
end Mn
end
section
namespace Mn
abbrev NE : Value → Shared → Prop := fun _ _ => False
noncomputable def Room (A : Around) (n : Nat) : Prop := A.handled = none ∧ A.depth + n ≤ recursionLimit ∧ A.units + 8 * n + 40 ≤ cLine
noncomputable def RetE (Γ : Wd) (F : Fz) (α : List SA) (s : Shared) (Q : AV → List AO → Prop) (r : Result) (s' : Shared) : Prop := match r with
  | .ok (.ret v) => PostE Γ F α s Q v s'
  | .ok _ => False
  | .error e => NE e s'
noncomputable def CallOK (Γ : Wd) (n : Nat) : CallT := fun f vs st Q => ∃ fi, Γ.P.fns[f]? = some fi ∧ ∀ (A : Around) (s : Shared) (F : Fz) (α : List SA) (us : List Value), Room A n → Inv Γ F α st s.heap → VRs F α vs us →
  codeAny (model Γ.prog Γ.w) A (.call (.ref fi.addr) ⟨us, []⟩) (RetE Γ F α s Q) s
noncomputable def NewOK (Γ : Wd) (n : Nat) : CallT := fun c vs st Q => ∃ C, Γ.P.clss[c]? = some C ∧ ∀ (A : Around) (s : Shared) (F : Fz) (α : List SA) (us : List Value), Room A n → Inv Γ F α st s.heap → VRs F α vs us →
  codeAny (model Γ.prog Γ.w) A (.call (.ref C) ⟨us, []⟩) (RetE Γ F α s Q) s
noncomputable def plainB : X → Bool
  | .cal .. => false
  | .new .. => false
  | .bi .. => false
  | _ => true
noncomputable def Xs.length : Xs → Nat
  | .nil => 0
  | .cons _ r => r.length + 1
section
variable {Γ : Wd} {A : Around} {s : Shared} {F : Fz} {α : List SA} {st : List AO} {Q : AV → List AO → Prop}
theorem post_after {F₁ : Fz} {α₁ : List SA} {s₁ : Shared} {c : Sem Value} (hs : ∃ tk, s₁ = { s with heap := s₁.heap, toks := tk }) (x : ExtE F α s.heap F₁ α₁ s₁.heap)
    (h : wpAny (model Γ.prog Γ.w) A c (PostE Γ F₁ α₁ s₁ Q) NE s₁) : wpAny (model Γ.prog Γ.w) A c (PostE Γ F α s Q) NE s₁ :=
  wpAny_mono h (fun _ _ p => p.after hs x) fun _ _ e => e
theorem post_afterB {F₁ : Fz} {α₁ : List SA} {s₁ : Shared} {c : Sem Bool} (hs : ∃ tk, s₁ = { s with heap := s₁.heap, toks := tk }) (x : ExtE F α s.heap F₁ α₁ s₁.heap)
    (h : wpAny (model Γ.prog Γ.w) A c (fun b s' => PostE Γ F₁ α₁ s₁ Q (.bool b) s') NE s₁) : wpAny (model Γ.prog Γ.w) A c (fun b s' => PostE Γ F α s Q (.bool b) s') NE s₁ :=
  wpAny_mono h (fun _ _ p => p.after hs x) fun _ _ e => e
theorem PostE.imp {Q' : AV → List AO → Prop} {v : Value} {s' : Shared} (p : PostE Γ F α s Q v s') (h : ∀ av st, Q av st → Q' av st) : PostE Γ F α s Q' v s' := by
  obtain ⟨F', α', st', av, tk, e, x, I, r, q⟩ := p
  exact ⟨F', α', st', av, tk, e, x, I, r, h _ _ q⟩
theorem truthy_R {av : AV} {v : Value} {b : Bool} {E : Value → Shared → Prop} {Q : Bool → Shared → Prop} (I : Inv Γ F α st s.heap) (r : VR F α av v) (e : TrR st av b) (h : ∀ tk, Q b { s with toks := tk }) : wpAny (model Γ.prog Γ.w) A (truthy v) Q E s := by
  cases av with
  | d x => exact truthy_D I.agree r e h
  | own l => exact r.elim
  | ob n =>
    cases e with
    | ob ho hl =>
      obtain ⟨p, hp, rfl, hpp, vs, ht, q⟩ := I.obj ho r
      exact truthy_L ht.isList q hl h
theorem trW_R {st : List AO} {av : AV} {K : Bool → Prop} (h : trW st av K) : ∃ b, TrR st av b ∧ K b := by
  cases av with
  | d x => cases x with
    | boo b => exact ⟨b, .boo b, h⟩
    | _ => exact h
  | _ => exact h
theorem truthy_A {av : AV} {v : Value} {K : Bool → Prop} {E : Value → Shared → Prop} {Q : Bool → Shared → Prop} (I : Inv Γ F α st s.heap) (r : VR F α av v) (e : trW st av K) (h : ∀ b tk, K b → Q b { s with toks := tk }) : wpAny (model Γ.prog Γ.w) A (truthy v) Q E s :=
  let ⟨b, e, k⟩ := trW_R e
  truthy_R I r e fun tk => h b tk k
theorem lift_true {e : PySem.Expr} {env : Env} (hd : isTrue e env (eval e env) = (do let v ← eval e env; standAt e.pos; holding [v] (truthy v)))
    (h : wpAny (model Γ.prog Γ.w) A (eval e env) (PostE Γ F α s (finX true Q)) NE s) : wpAny (model Γ.prog Γ.w) A (isTrue e env (eval e env)) (fun b s' => PostE Γ F α s Q (.bool b) s') NE s := by
  refine wpAny_isTrue_value (wpAny_mono h (fun v s₁ p => ?_) fun _ _ e => e) hd
  obtain ⟨F', α', st', av, tk, e, x, I, r, q⟩ := p
  exact truthy_A I r (show trW st' av fun b => Q (.d (.boo b)) st' from q) fun b tk' q => ⟨F', α', st', _, tk', by rw [e], x, I, .d_boo b, q⟩
end
section
variable (Γ : Wd) (n : Nat) (env : Env) (ns : List String)
noncomputable def SemX (x : X) : Prop := ∀ (c : Bool) (A : Around) (s : Shared) (F : Fz) (α : List SA) (st : List AO) (vars : Vars) (oa : Nat → Addr) (Q : AV → List AO → Prop), Room A n → Inv Γ F α st s.heap → Frm F α env ns vars oa s.heap →
  wpX Γ.P (CallOK Γ n) (NewOK Γ n) x c vars st Q →
  if c = true then wpAny (model Γ.prog Γ.w) A (isTrue (toE Γ.P ns x) env (eval (toE Γ.P ns x) env)) (fun b s' => PostE Γ F α s Q (.bool b) s') NE s
  else wpAny (model Γ.prog Γ.w) A (eval (toE Γ.P ns x) env) (PostE Γ F α s Q) NE s
noncomputable def PostEs (F : Fz) (α : List SA) (s : Shared) (Q : List AV → List AO → Prop) (vs : List Value) (s' : Shared) : Prop :=
  ∃ F' α' st' l tk, s' = { s with heap := s'.heap, toks := tk } ∧ ExtE F α s.heap F' α' s'.heap ∧ Inv Γ F' α' st' s'.heap ∧ VRs F' α' l vs ∧ Q l st'
noncomputable def SemXs (xs : Xs) : Prop := ∀ (A : Around) (s : Shared) (F : Fz) (α : List SA) (st : List AO) (vars : Vars) (oa : Nat → Addr) (Q : List AV → List AO → Prop) (pos : Pos), Room A n → Inv Γ F α st s.heap → Frm F α env ns vars oa s.heap →
  wpXs Γ.P (CallOK Γ n) (NewOK Γ n) xs vars st Q →
  wpAny (model Γ.prog Γ.w) A (spliced (backTo pos (starEach (toEs Γ.P ns xs) env))) (PostEs Γ F α s Q) NE s
end
section
variable {Γ : Wd} {n : Nat} {env : Env} {ns : List String}
theorem SemX.step {x : X} (h : SemX Γ n env ns x) {A : Around} {s : Shared} {F : Fz} {α : List SA} {st : List AO} {vars : Vars} {oa : Nat → Addr} {Q : AV → List AO → Prop} (R : Room A n) (I : Inv Γ F α st s.heap) (f : Frm F α env ns vars oa s.heap)
    (w : wpX Γ.P (CallOK Γ n) (NewOK Γ n) x false vars st Q) {K : Value → Shared → Prop}
    (k : ∀ F' α' st' av v s', (∃ tk, s' = { s with heap := s'.heap, toks := tk }) → ExtE F α s.heap F' α' s'.heap → Inv Γ F' α' st' s'.heap → Frm F' α' env ns vars oa s'.heap → VR F' α' av v → Q av st' → K v s') :
    wpAny (model Γ.prog Γ.w) A (eval (toE Γ.P ns x) env) K NE s := by
  refine wpAny_mono (h false A s F α st vars oa Q R I f w) (fun v s' p => ?_) fun _ _ e => e
  obtain ⟨F', α', st', av, tk, e, x, I', r, q⟩ := p
  exact k F' α' st' av v s' ⟨tk, e⟩ x I' (f.ext x) r q
theorem SemX.stepT {x : X} (h : SemX Γ n env ns x) {A : Around} {s : Shared} {F : Fz} {α : List SA} {st : List AO} {vars : Vars} {oa : Nat → Addr} {Q : AV → List AO → Prop} (R : Room A n) (I : Inv Γ F α st s.heap) (f : Frm F α env ns vars oa s.heap)
    (w : wpX Γ.P (CallOK Γ n) (NewOK Γ n) x true vars st Q) {K : Bool → Shared → Prop}
    (k : ∀ F' α' st' b s', (∃ tk, s' = { s with heap := s'.heap, toks := tk }) → ExtE F α s.heap F' α' s'.heap → Inv Γ F' α' st' s'.heap → Frm F' α' env ns vars oa s'.heap → Q (.d (.boo b)) st' → K b s') :
    wpAny (model Γ.prog Γ.w) A (isTrue (toE Γ.P ns x) env (eval (toE Γ.P ns x) env)) K NE s := by
  refine wpAny_mono (h true A s F α st vars oa Q R I f w) (fun v s' p => ?_) fun _ _ e => e
  obtain ⟨F', α', st', av, tk, e, x, I', r, q⟩ := p
  have : av = .d (.boo v) := by
    cases av with
    | d y => cases r; rfl
    | ob m => obtain ⟨p, _, hp⟩ := r; cases hp
    | own l => exact r.elim
  subst this
  exact k F' α' st' v s' ⟨tk, e⟩ x I' (f.ext x) q
theorem SemXs.step {xs : Xs} (h : SemXs Γ n env ns xs) {A : Around} {s : Shared} {F : Fz} {α : List SA} {st : List AO} {vars : Vars} {oa : Nat → Addr} {Q : List AV → List AO → Prop} {pos : Pos} (R : Room A n) (I : Inv Γ F α st s.heap) (f : Frm F α env ns vars oa s.heap)
    (w : wpXs Γ.P (CallOK Γ n) (NewOK Γ n) xs vars st Q) {K : List Value → Shared → Prop}
    (k : ∀ F' α' st' l vs s', (∃ tk, s' = { s with heap := s'.heap, toks := tk }) → ExtE F α s.heap F' α' s'.heap → Inv Γ F' α' st' s'.heap → Frm F' α' env ns vars oa s'.heap → VRs F' α' l vs → Q l st' → K vs s') :
    wpAny (model Γ.prog Γ.w) A (spliced (backTo pos (starEach (toEs Γ.P ns xs) env))) K NE s := by
  refine wpAny_mono (h A s F α st vars oa Q pos R I f w) (fun v s' p => ?_) fun _ _ e => e
  obtain ⟨F', α', st', l, tk, e, x, I', r, q⟩ := p
  exact k F' α' st' l v s' ⟨tk, e⟩ x I' (f.ext x) r q
theorem SemX.mk {x : X} (W : Vars → List AO → (AV → List AO → Prop) → Prop) (hw : ∀ c vs st Q, wpX Γ.P (CallOK Γ n) (NewOK Γ n) x c vs st Q → W vs st (finX c Q))
    (hd : isTrue (toE Γ.P ns x) env (eval (toE Γ.P ns x) env) = (do let v ← eval (toE Γ.P ns x) env; standAt (toE Γ.P ns x).pos; holding [v] (truthy v)))
    (h : ∀ (A : Around) (s : Shared) (F : Fz) (α : List SA) (st : List AO) (vars : Vars) (oa : Nat → Addr) (Q : AV → List AO → Prop), Room A n → Inv Γ F α st s.heap → Frm F α env ns vars oa s.heap →
      W vars st Q → wpAny (model Γ.prog Γ.w) A (eval (toE Γ.P ns x) env) (PostE Γ F α s Q) NE s) : SemX Γ n env ns x := by
  intro c A s F α st vars oa Q R I f w
  have w := hw _ _ _ _ w
  cases c with
  | true => exact lift_true hd (h A s F α st vars oa _ R I f w)
  | false => exact h A s F α st vars oa _ R I f w
theorem tr_trans {s s₁ s₂ : Shared} (h : ∃ tk, s₁ = { s with heap := s₁.heap, toks := tk }) (h' : ∃ tk, s₂ = { s₁ with heap := s₂.heap, toks := tk }) : ∃ tk, s₂ = { s with heap := s₂.heap, toks := tk } := by
  obtain ⟨a, e⟩ := h
  obtain ⟨b, e'⟩ := h'
  exact ⟨b, by rw [e', e]⟩
theorem room_u {A : Around} (R : Room A n) : A.units + 2 < cLine := by
  have := R.2.2
  omega
theorem sem_cint {k : Int} {i : Nat} {p : Pos} : SemX Γ n env ns (.cint k i p) :=
  .mk (fun _ st Q => Q (.d (.int k)) st) (fun _ _ _ _ h => h) rfl fun _ _ _ _ _ _ _ _ _ I _ q => wpAny_Constant_int (.here I (.d_int _ _) q)
theorem sem_cstr {x : String} {i : Nat} {p : Pos} : SemX Γ n env ns (.cstr x i p) :=
  .mk (fun _ st Q => Q (.d (.str (codes x))) st) (fun _ _ _ _ h => h) rfl fun _ _ _ _ _ _ _ _ _ I _ q => wpAny_Constant_str (by
    rw [ofString_codes]; exact .here I (.d_str _ _) q)
theorem sem_cnon {i : Nat} {p : Pos} : SemX Γ n env ns (.cnon i p) :=
  .mk (fun _ st Q => Q (.d .non) st) (fun _ _ _ _ h => h) rfl fun _ _ _ _ _ _ _ _ _ I _ q => wpAny_Constant_none (.here' I .d_non q)
theorem sem_cboo {b : Bool} {i : Nat} {p : Pos} : SemX Γ n env ns (.cboo b i p) :=
  .mk (fun _ st Q => Q (.d (.boo b)) st) (fun _ _ _ _ h => h) rfl fun _ _ _ _ _ _ _ _ _ I _ q => wpAny_Constant_bool (.here' I (.d_boo _) q)
theorem sem_loc (K : EOK env ns) {i : Nat} {p : Pos} : SemX Γ n env ns (.loc i p) := by
  intro c A s F α st vars oa Q R I f w
  replace w : (match vars.getD i none with | some (.own l) => c = true ∧ finX c Q (.own l) st | some v => finX c Q v st | none => False) := w
  cases hv : vars.getD i none with
  | none => rw [hv] at w; exact w.elim
  | some av =>
    rw [hv] at w
    cases av with
    | own l =>
      obtain ⟨rfl, w⟩ := w
      refine wpAny_isTrue_value (ld_var K f hv fun v r => ?_) rfl
      obtain ⟨rfl, vs, hl, q⟩ := r
      obtain ⟨b, e, w⟩ : ∃ b, TrR st (.own l) b ∧ Q (.d (.boo b)) st := w
      cases e with
      | own hz => exact truthy_L hl.isList q hz fun tk => .here I (.d_boo _) w
    | d y =>
      cases c with
      | true => exact lift_true rfl (ld_var K f hv fun v r => .here' (av := .d y) I r w)
      | false => exact ld_var K f hv fun v r => .here' (av := .d y) I r w
    | ob m =>
      cases c with
      | true => exact lift_true rfl (ld_var K f hv fun v r => .here' (av := .ob m) I r w)
      | false => exact ld_var K f hv fun v r => .here' (av := .ob m) I r w
theorem ns_here {h : Heap} {F : Fz} {α : List SA} {st : List AO} (I : Inv Γ F α st h) {a : Addr} {m : Str → Option Value} (x : Γ.B.Ns a m) : h.Ns a m := by
  obtain ⟨o, es, ep, ho, r⟩ := x
  exact ⟨o, es, ep, I.bkeep _ _ ho, r⟩
theorem ld_glob (W : WdOK Γ) (K : EOK env ns) {A : Around} {s : Shared} {F : Fz} {α : List SA} {st : List AO} (I : Inv Γ F α st s.heap) {x : Str} {p : Pos} {v : Value} {Q : Value → Shared → Prop} (hk : env.kindOf x = some .globalImplicit) (hd : (x == ("__debug__" : Str)) = false) (hv : Γ.mg x = some v) (h : Q v s) :
    wpAny (model Γ.prog Γ.w) A (eval (.Name x p) env) Q NE s :=
  Calls.Name_function_global K.kind hk (Calls.loadGlobal_global (by rw [K.gl]; exact ns_here I W.ng) hv h) hd
theorem ld_bltn (W : WdOK Γ) (K : EOK env ns) {A : Around} {s : Shared} {F : Fz} {α : List SA} {st : List AO} (I : Inv Γ F α st s.heap) {x : Str} {p : Pos} {v : Value} {Q : Value → Shared → Prop} (hk : env.kindOf x = some .globalImplicit) (hd : (x == ("__debug__" : Str)) = false) (hg : Γ.mg x = none) (hv : Γ.mb x = some v) (h : Q v s) :
    wpAny (model Γ.prog Γ.w) A (eval (.Name x p) env) Q NE s :=
  Calls.Name_function_global K.kind hk (Calls.loadGlobal_builtin (by rw [K.gl]; exact ns_here I W.ng) hg (by rw [K.bt]; exact ns_here I W.nb) hv h) hd
theorem sem_gv (W : WdOK Γ) (K : EOK env ns) {k : Nat} {p : Pos} (hk : env.kindOf (Str.ofString ((Γ.P.gtab.map (·.1)).getD k "")) = some .globalImplicit) : SemX Γ n env ns (.gv k p) :=
  .mk (fun _ st Q => match (Γ.P.gtab.map (·.2))[k]? with | some d => Q (.d d) st | none => False) (fun _ _ _ _ h => h) rfl fun A s F α st vars oa Q R I f q => by
    rw [List.getElem?_map] at q
    cases e : Γ.P.gtab[k]? with
    | none => rw [e] at q; exact q.elim
    | some xd =>
      obtain ⟨x, d⟩ := xd
      rw [e] at q
      obtain ⟨hd, v, hv, hr⟩ := W.gt k x d e
      have ex : (Γ.P.gtab.map (·.1)).getD k "" = x := by
        rw [List.getD_eq_getElem?_getD, List.getElem?_map, e]; rfl
      show wpAny _ A (eval (.Name (Str.ofString ((Γ.P.gtab.map (·.1)).getD k "")) p) env) _ _ s
      rw [ex] at hk ⊢
      exact ld_glob W K I hk hd hv (.here' (av := .d d) I (DR.mono (fun a o h => I.base a o h) hr) q)
theorem sem_neg {a : X} {p : Pos} (ha : SemX Γ n env ns a) : SemX Γ n env ns (.neg a p) :=
  .mk (fun vs st Q => wpX Γ.P (CallOK Γ n) (NewOK Γ n) a false vs st fun v st => match v with | .d (.int n) => Q (.d (.int (-n))) st | _ => False) (fun _ _ _ _ h => h) rfl fun A s F α st vars oa Q R I f q => by
    refine wpAny_UnaryOp (ha.step R I f q fun F' α' st' av v s' hs x I' f' r q => ?_)
    cases av with
    | d y => cases y with
      | int n => cases r; exact P.neg_int (PostE.after hs x (.here I' (.d_int _ _) q))
      | _ => exact q.elim
    | _ => exact q.elim
theorem sem_not {a : X} {p : Pos} (ha : SemX Γ n env ns a) : SemX Γ n env ns (.not a p) := by
  intro c A s F α st vars oa Q R I f q
  cases c with
  | true =>
    refine wpAny_isTrue_Not (ha.stepT R I f q fun F' α' st' b s' hs x I' f' q => ?_)
    exact PostE.after hs x (.here' I' (.d_boo _) q)
  | false =>
    refine wpAny_UnaryOp (ha.step R I f q fun F' α' st' av v s' hs x I' f' r q => ?_)
    exact not_of (truthy_A I' r q fun b tk q => PostE.after hs x (.here I' (.d_boo _) q))
theorem sem_bin {o : BO} {a b : X} {p : Pos} (ha : SemX Γ n env ns a) (hb : SemX Γ n env ns b) : SemX Γ n env ns (.bin o a b p) :=
  .mk (fun vs st Q => wpX Γ.P (CallOK Γ n) (NewOK Γ n) a false vs st fun x st => wpX Γ.P (CallOK Γ n) (NewOK Γ n) b false vs st fun y st => ∃ r, BinR o x y r ∧ Q r st) (fun _ _ _ _ h => h) rfl fun A s F α st vars oa Q R I f q => by
    refine wpAny_BinOp (ha.step R I f q fun F₁ α₁ st₁ x v s₁ hs x₁ I₁ f₁ r₁ q => hb.step R I₁ f₁ q fun F₂ α₂ st₂ y u s₂ hs₂ x₂ I₂ f₂ r₂ q => ?_)
    obtain ⟨r, e, q⟩ := q
    exact post_after (tr_trans hs hs₂) (x₁.trans x₂) (bin_A I₂ e (x₂.vr r₁) r₂ q)
theorem noMarks (P : Pg) (ns : List String) (o : CmpOp) (x : X) : behindInMarks o (toE P ns x) = false := by
  cases x <;> rfl
theorem sem_cmp {o : CmpOp} {a b : X} {p : Pos} (ha : SemX Γ n env ns a) (hb : SemX Γ n env ns b) : SemX Γ n env ns (.cmp o a b p) := by
  intro c A s F α st vars oa Q R I f q
  cases c with
  | true =>
    refine wpAny_isTrue_Compare1 (ha.step R I f q fun F₁ α₁ st₁ x v s₁ hs x₁ I₁ f₁ r₁ q => hb.step R I₁ f₁ q fun F₂ α₂ st₂ y u s₂ hs₂ x₂ I₂ f₂ r₂ q => ?_) (noMarks ..)
    obtain ⟨r, e, q⟩ := q
    refine cmp_A I₂ (room_u R) e (x₂.vr r₁) r₂ fun tk => truthy_D (st := st₂) (x := .boo r) (s := { s₂ with toks := tk }) I₂.agree (DR.boo r) (.boo r) fun tk' => ?_
    exact PostE.after (tr_trans hs hs₂) (x₁.trans x₂) (.here I₂ (.d_boo _) q)
  | false =>
    refine wpAny_Compare1 (ha.step R I f q fun F₁ α₁ st₁ x v s₁ hs x₁ I₁ f₁ r₁ q => hb.step R I₁ f₁ q fun F₂ α₂ st₂ y u s₂ hs₂ x₂ I₂ f₂ r₂ q => ?_) (noMarks ..)
    obtain ⟨r, e, q⟩ := q
    exact cmp_A I₂ (room_u R) e (x₂.vr r₁) r₂ fun tk => PostE.after (tr_trans hs hs₂) (x₁.trans x₂) (.here I₂ (.d_boo _) q)
theorem sem_ite {t a b : X} {p : Pos} (ht : SemX Γ n env ns t) (ha : SemX Γ n env ns a) (hb : SemX Γ n env ns b) : SemX Γ n env ns (.ite t a b p) := by
  intro c A s F α st vars oa Q R I f q
  cases c with
  | true =>
    show wpAny _ A (isTrue (.IfExp (toE Γ.P ns t) (toE Γ.P ns a) (toE Γ.P ns b) p) env _) _ _ s
    rw [arm_isTrue_IfExp]
    refine wpAny_bind (ht.stepT R I f q fun F' α' st' b s' hs x I' f' q => ?_)
    cases b with
    | true => exact post_afterB hs x (ha true A s' F' α' st' vars oa Q R I' f' q)
    | false => exact post_afterB hs x (hb true A s' F' α' st' vars oa Q R I' f' q)
  | false =>
    refine wpAny_IfExp (ht.stepT R I f q fun F' α' st' b s' hs x I' f' q => ?_)
    cases b with
    | true => exact post_after hs x (ha false A s' F' α' st' vars oa Q R I' f' q)
    | false => exact post_after hs x (hb false A s' F' α' st' vars oa Q R I' f' q)
end
end Mn
end
section
namespace Mn
section
variable {Γ : Wd} {n : Nat} {env : Env} {ns : List String}
noncomputable def AllS (Γ : Wd) (n : Nat) (env : Env) (ns : List String) : Xs → Prop
  | .nil => True
  | .cons x r => SemX Γ n env ns x ∧ AllS Γ n env ns r
theorem Xs.rec' {M : Xs → Prop} (nil : M .nil) (cons : ∀ x r, M r → M (.cons x r)) : ∀ xs, M xs
  | .nil => nil
  | .cons x r => cons x r (Xs.rec' nil cons r)
theorem starE (P : Pg) (x : X) (es : List PySem.Expr) (pos : Pos) : backTo pos (starEach (toE P ns x :: es) env) = (false, eval (toE P ns x) env) :: backTo pos (starEach es env) := by
  cases x <;> rfl
theorem sem_xs {xs : Xs} (h : AllS Γ n env ns xs) : SemXs Γ n env ns xs := by
  induction xs using Xs.rec' with
  | nil => exact fun A s F α st vars oa Q pos R I f w => Calls.spliced_nil ⟨F, α, st, [], s.toks, rfl, .refl _ _ _, I, .nil, w⟩
  | cons x r ih =>
    intro A s F α st vars oa Q pos R I f w
    show wpAny _ A (spliced (backTo pos (starEach (toE Γ.P ns x :: toEs Γ.P ns r) env))) _ _ s
    rw [starE]
    refine Calls.spliced_cons (h.1.step R I f w fun F₁ α₁ st₁ av v s₁ hs x₁ I₁ f₁ r₁ q => ?_)
    refine (ih h.2).step R I₁ f₁ q fun F₂ α₂ st₂ l vs s₂ hs₂ x₂ I₂ f₂ r₂ q => ?_
    obtain ⟨tk, e⟩ := tr_trans hs hs₂
    exact ⟨F₂, α₂, st₂, av :: l, tk, e, x₁.trans x₂, I₂, .cons (x₂.vr r₁) r₂, q⟩
theorem sem_ds {xs : Xs} (h : AllS Γ n env ns xs) : ∀ {A : Around} {s : Shared} {F : Fz} {α : List SA} {st : List AO} {vars : Vars} {oa : Nat → Addr} {Q : List D → List AO → Prop} {pos : Pos}, Room A n → Inv Γ F α st s.heap → Frm F α env ns vars oa s.heap →
    wpDs Γ.P (CallOK Γ n) (NewOK Γ n) xs vars st Q → ∀ {K : List Value → Shared → Prop},
    (∀ F' α' st' l vs s', (∃ tk, s' = { s with heap := s'.heap, toks := tk }) → ExtE F α s.heap F' α' s'.heap → Inv Γ F' α' st' s'.heap → Frm F' α' env ns vars oa s'.heap → DRs F' l vs → Q l st' → K vs s') →
    wpAny (model Γ.prog Γ.w) A (spliced (backTo pos (starEach (toEs Γ.P ns xs) env))) K NE s := by
  induction xs using Xs.rec' with
  | nil =>
    intro A s F α st vars oa Q pos R I f w K k
    exact Calls.spliced_nil (k F α st [] [] s ⟨s.toks, rfl⟩ (.refl _ _ _) I f .nil w)
  | cons x r ih =>
    intro A s F α st vars oa Q pos R I f w K k
    show wpAny _ A (spliced (backTo pos (starEach (toE Γ.P ns x :: toEs Γ.P ns r) env))) _ _ s
    rw [starE]
    refine Calls.spliced_cons (h.1.step R I f w fun F₁ α₁ st₁ av v s₁ hs x₁ I₁ f₁ r₁ q => ?_)
    cases av with
    | d y =>
      refine ih h.2 R I₁ f₁ q fun F₂ α₂ st₂ l vs s₂ hs₂ x₂ I₂ f₂ r₂ q => ?_
      exact k F₂ α₂ st₂ _ _ s₂ (tr_trans hs hs₂) (x₁.trans x₂) I₂ f₂ (.cons (DR.mono x₂.sub r₁) r₂) q
    | _ => exact q.elim
theorem sem_tup {xs : Xs} {k : Nat} {p : Pos} (h : AllS Γ n env ns xs) : SemX Γ n env ns (.tup xs k p) :=
  .mk (fun vs st Q => wpDs Γ.P (CallOK Γ n) (NewOK Γ n) xs vs st fun l st => l.length ≤ big ∧ Q (.d (.tup l)) st) (fun _ _ _ _ h => h) rfl fun A s F α st vars oa Q R I f q => by
    refine wpAny_Tuple (sem_ds h R I f q fun F₁ α₁ st₁ l vs s₁ hs x₁ I₁ f₁ r₁ q => ⟨?_, ?_⟩)
    · rw [← r₁.length]; exact q.1
    · exact PostE.after hs x₁ (post_made I₁ rfl (dr_tup_new I₁ r₁) q.2 s₁.toks)
theorem sem_lst {xs : Xs} {p : Pos} (h : AllS Γ n env ns xs) : SemX Γ n env ns (.lst xs p) :=
  .mk (fun vs st Q => wpDs Γ.P (CallOK Γ n) (NewOK Γ n) xs vs st fun l st => l.length ≤ big ∧ Q (.d (.lst l)) st) (fun _ _ _ _ h => h) rfl fun A s F α st vars oa Q R I f q => by
    refine wpAny_List (sem_ds h R I f q fun F₁ α₁ st₁ l vs s₁ hs x₁ I₁ f₁ r₁ q => ⟨?_, ?_⟩)
    · rw [← r₁.length]; exact q.1
    · exact PostE.after hs x₁ (post_made I₁ rfl (dr_lst_new I₁ r₁) q.2 s₁.toks)
theorem none_new {h : Heap} {a : Nat} (e : h.objs.size = a) : h.get? a = none := get_size h (by omega)
theorem sem_newl {p : Pos} : SemX Γ n env ns (.newl p) :=
  .mk (fun _ st Q => Q (.ob st.length) (st ++ [AO.lst []])) (fun _ _ _ _ h => h) rfl fun A s F α st vars oa Q R I f q => by
    refine wpAny_List (Calls.spliced_nil ⟨Nat.zero_le _, ?_⟩)
    have g : (s.heap.push { cls := .type "list", data := .seq ([] : List Value).toArray }).get? s.heap.objs.size = some { cls := .type "list", data := .seq ([] : List Value).toArray } := Heap.get?_push_size s.heap rfl
    have hn := none_new (h := s.heap) rfl
    obtain ⟨I', x⟩ := I.alloc (h' := s.heap.push { cls := .type "list", data := .seq ([] : List Value).toArray }) (s.heap.objs.size, s.heap.objs.size) (.lst []) hn hn ⟨_, g⟩ ⟨_, g⟩
      (fun a o e => Heap.get?_push_of_some _ e) ⟨rfl, [], ⟨_, g⟩, .nil⟩
    exact ⟨F, _, _, .ob st.length, s.toks, rfl, x, I', ⟨(s.heap.objs.size, s.heap.objs.size), by rw [← I.len]; simp, rfl⟩, q⟩
theorem sem_newls {xs : Xs} {p : Pos} (h : AllS Γ n env ns xs) : SemX Γ n env ns (.newls xs p) :=
  .mk (fun vs st Q => wpDs Γ.P (CallOK Γ n) (NewOK Γ n) xs vs st fun l st => l.length ≤ big ∧ Q (.ob st.length) (st ++ [AO.lst l])) (fun _ _ _ _ h => h) rfl fun A s F α st vars oa Q R I f q => by
    refine wpAny_List (sem_ds h R I f q fun F₁ α₁ st₁ l vs s₁ hs x₁ I₁ f₁ r₁ q => ⟨?_, ?_⟩)
    · rw [← r₁.length]; exact q.1
    · have g : (s₁.heap.push { cls := .type "list", data := .seq vs.toArray }).get? s₁.heap.objs.size = some { cls := .type "list", data := .seq vs.toArray } := Heap.get?_push_size s₁.heap rfl
      have hn := none_new (h := s₁.heap) rfl
      obtain ⟨I', x⟩ := I₁.alloc (h' := s₁.heap.push { cls := .type "list", data := .seq vs.toArray }) (s₁.heap.objs.size, s₁.heap.objs.size) (.lst l) hn hn ⟨_, g⟩ ⟨_, g⟩
        (fun a o e => Heap.get?_push_of_some _ e) ⟨rfl, vs, ⟨_, g⟩, by have := DRs.mono (.refl F₁) r₁; exact this⟩
      exact PostE.after hs x₁ ⟨F₁, _, _, .ob st₁.length, s₁.toks, rfl, x, I', ⟨(s₁.heap.objs.size, s₁.heap.objs.size), by rw [← I₁.len]; simp, rfl⟩, q.2⟩
theorem sem_newd (W : WdOK Γ) {p : Pos} : SemX Γ n env ns (.newd p) :=
  .mk (fun _ st Q => Q (.ob st.length) (st ++ [AO.d0])) (fun _ _ _ _ h => h) rfl fun A s F α st vars oa Q R I f q => by
    refine wpAny_Dict_empty ?_
    have g : (s.heap.push { cls := .type "dict", data := .dict #[] }).get? s.heap.objs.size = some { cls := .type "dict", data := .dict #[] } := Heap.get?_push_size s.heap rfl
    have hn := none_new (h := s.heap) rfl
    have hm : (s.heap.objs.size == sysModules) = false := by
      obtain ⟨m, hl, r⟩ := W.lim
      exact beq_eq_false_iff_ne.mpr (Nat.ne_of_gt (modules_low ⟨m, ns_here I hl, r⟩))
    obtain ⟨I', x⟩ := I.alloc (h' := s.heap.push { cls := .type "dict", data := .dict #[] }) (s.heap.objs.size, s.heap.objs.size) .d0 hn hn ⟨_, g⟩ ⟨_, g⟩
      (fun a o e => Heap.get?_push_of_some _ e) ⟨rfl, hm, _, g⟩
    exact ⟨F, _, _, .ob st.length, s.toks, rfl, x, I', ⟨(s.heap.objs.size, s.heap.objs.size), by rw [← I.len]; simp, rfl⟩, q⟩
theorem base_plain (P : Pg) {a : X} (h : plainB a = true) (attr : Str) (env : Env) (whole : Sem Value) : attributeBase (toE P ns a) attr env whole = whole := by
  cases a <;> first | rfl | cases h
theorem sem_att (W : WdOK Γ) {a : X} {fd : Nat} {p : Pos} (ha : SemX Γ n env ns a) (hf : fd < Γ.P.flds.length) (hp : plainB a = true) : SemX Γ n env ns (.att a fd p) :=
  .mk (fun vs st Q => wpX Γ.P (CallOK Γ n) (NewOK Γ n) a false vs st fun v st => match insOf st v with | some (_, fs) => (match fget fs fd with | some r => Q r st | none => False) | none => False) (fun _ _ _ _ h => h) rfl fun A s F α st vars oa Q R I f q => by
    show wpAny _ A (eval (.Attribute (toE Γ.P ns a) (Γ.P.fld fd) p) env) _ _ s
    rw [arm_eval_Attribute, base_plain _ hp]
    refine wpAny_bind (ha.step R I f q fun F₁ α₁ st₁ av v s₁ hs x₁ I₁ f₁ r₁ q => ?_)
    cases e : insOf st₁ av with
    | none => rw [e] at q; exact q.elim
    | some cf =>
      rw [e] at q
      replace q : (match fget cf.2 fd with | some r => Q r st₁ | none => False) := q
      cases hg : fget cf.2 fd with
      | none => rw [hg] at q; exact q.elim
      | some r =>
        rw [hg] at q
        refine wpAny_bind (wpAny_standAt (wpAny_bind (wpAny_holding (wpAny_mono (attr_A W I₁ hf e hg r₁ q) (fun u s' p => ?_) fun _ _ e => e))))
        exact wpAny_bind (wpAny_letTemporaryGo (wpAny_pure (PostE.after hs x₁ p)))
theorem sub_plain (P : Pg) (i : X) (o u : Value) : subscripted (toE P ns i) false o u = operate [o, u] (getItem o u) := by
  cases i <;> rfl
theorem sem_idx {a i : X} {p : Pos} (ha : SemX Γ n env ns a) (hi : SemX Γ n env ns i) : SemX Γ n env ns (.idx a i p) :=
  .mk (fun vs st Q => wpX Γ.P (CallOK Γ n) (NewOK Γ n) a false vs st fun x st => wpX Γ.P (CallOK Γ n) (NewOK Γ n) i false vs st fun y st => ∃ r, IdxR st x y r ∧ Q r st) (fun _ _ _ _ h => h) rfl fun A s F α st vars oa Q R I f q => by
    refine Subscript_ (ha.step R I f q fun F₁ α₁ st₁ x v s₁ hs x₁ I₁ f₁ r₁ q => hi.step R I₁ f₁ q fun F₂ α₂ st₂ y u s₂ hs₂ x₂ I₂ f₂ r₂ q => ?_)
    obtain ⟨r, e, q⟩ := q
    exact post_after (tr_trans hs hs₂) (x₁.trans x₂) (idx_A I₂ e (x₂.vr r₁) r₂ q (sub_plain _ _))
theorem evalArgs_xs {M : Model} {A : Around} {E : Value → Shared → Prop} {s : Shared} {P : Pg} {fv : Value} {xs : Xs} {pos : Pos} {Q : Args → Shared → Prop} (h : wpAny M A (spliced (backTo pos (starEach (toEs P ns xs) env))) (fun vs s' => Q ⟨vs, []⟩ s') E s) : wpAny M A (evalArgs fv true (backTo pos (starEach (toEs P ns xs) env)) []) Q E s := by
  cases xs with
  | nil =>
    unfold evalArgs
    show wpAny M A (spliced [] >>= _) Q E s
    refine wpAny_bind (wpAny_mono h (fun vs s' h' => wpAny_bind (wpAny_pure ?_)) fun _ _ e => e)
    refine wpAny_holding ?_
    exact wpAny_bind (wpAny_pure (wpAny_bind (wpAny_pure (wpAny_pure h'))))
  | cons x r =>
    show wpAny _ A (evalArgs fv true (backTo pos (starEach (toE P ns x :: toEs P ns r) env)) []) _ _ s
    replace h : wpAny M A (spliced (backTo pos (starEach (toE P ns x :: toEs P ns r) env))) (fun vs s' => Q ⟨vs, []⟩ s') E s := h
    rw [starE] at h ⊢
    exact Calls.evalArgs_plain h
theorem plain_xs (P : Pg) (pos : Pos) (xs : Xs) : (backTo pos (starEach (toEs P ns xs) env)).any (·.1) = false := by
  induction xs using Xs.rec' with
  | nil => rfl
  | cons x r ih =>
    show (backTo pos (starEach (toE P ns x :: toEs P ns r) env)).any (·.1) = false
    rw [starE, List.any_cons, ih]; rfl
theorem callWith_fn {K : Frag} {M : Model} {A : Around} {E : Value → Shared → Prop} {s : Shared} {P : Pg} {fv : Value} {first : List Value} {xs : Xs} {pos p' : Pos} {Q : Value → Shared → Prop} (hk : keepIn K fv = true)
    (h : wpAny M A (spliced (backTo p' (starEach (toEs P ns xs) env))) (fun vs s' => K.In s'.heap ∧ wpAny M A (call fv (first ++ vs)) Q E s') E s) : wpAny M A (callWith pos fv first (backTo p' (starEach (toEs P ns xs) env)) []) Q E s :=
  callWith_of (P := fun h => K.In h) (by rw [plain_xs]; rfl) (fun h X => keeps_K hk h X) (evalArgs_xs h)
theorem callName {M : Model} {A : Around} {E : Value → Shared → Prop} {s : Shared} {P : Pg} {x : Str} {np pos : Pos} {xs : Xs} {Q : Value → Shared → Prop}
    (h : wpAny M A (eval (.Name x np) env) (fun f s₁ => wpAny M A (callWith pos f [] (backTo pos (starEach (toEs P ns xs) env)) []) Q E s₁) E s) :
    wpAny M A (eval (.Call (.Name x np) (toEs P ns xs) [] pos) env) Q E s := by
  show wpAny M A (do callWith pos (← eval (.Name x np) env) [] (backTo pos (starEach (toEs P ns xs) env)) (backToKw pos (keywordEach [] env))) Q E s
  exact wpAny_bind h
theorem sem_cal (W : WdOK Γ) (K : EOK env ns) {k : Nat} {xs : Xs} {np p : Pos} (h : AllS Γ n env ns xs) (hk : env.kindOf (Str.ofString ((Γ.P.fns.map (·.gname)).getD k "")) = some .globalImplicit) (hg : ((Γ.P.fns.map (·.gname)).getD k "" != "") = true) : SemX Γ n env ns (.cal k xs np p) :=
  .mk (fun vs st Q => wpXs Γ.P (CallOK Γ n) (NewOK Γ n) xs vs st fun l st => CallOK Γ n k l st Q) (fun _ _ _ _ h => h) rfl fun A s F α st vars oa Q R I f q => by
    show wpAny _ A (eval (.Call (.Name (Str.ofString ((Γ.P.fns.map (·.gname)).getD k "")) np) (toEs Γ.P ns xs) [] p) env) _ _ s
    rw [List.getD_eq_getElem?_getD, List.getElem?_map] at hk hg ⊢
    cases e : Γ.P.fns[k]? with
    | none => rw [e] at hg; exact absurd hg (by decide)
    | some fi =>
      rw [e] at hk hg
      have hg' : fi.gname ≠ "" := by simpa using hg
      obtain ⟨hd, hv⟩ := W.fnG k fi e hg'
      refine callName (ld_glob W K I hk hd hv (callWith_fn (W.fn k fi e).kp ?_))
      refine (sem_xs h).step R I f q fun F₁ α₁ st₁ l vs s₁ hs x₁ I₁ f₁ r₁ q => ⟨kin_here W I₁, ?_⟩
      obtain ⟨fi', e', c⟩ := q
      rw [e] at e'; cases e'
      exact post_after hs x₁ (wpAny_call (c A s₁ F₁ α₁ vs R I₁ r₁))
theorem sem_new (W : WdOK Γ) (K : EOK env ns) {k : Nat} {xs : Xs} {np p : Pos} (h : AllS Γ n env ns xs) (hk : env.kindOf (Str.ofString (Γ.P.clsN.getD k "")) = some .globalImplicit) (hc : k < Γ.P.clsN.length) (hc2 : k < Γ.P.clss.length) : SemX Γ n env ns (.new k xs np p) :=
  .mk (fun vs st Q => wpXs Γ.P (CallOK Γ n) (NewOK Γ n) xs vs st fun l st => NewOK Γ n k l st Q) (fun _ _ _ _ h => h) rfl fun A s F α st vars oa Q R I f q => by
    show wpAny _ A (eval (.Call (.Name (Str.ofString (Γ.P.clsN.getD k "")) np) (toEs Γ.P ns xs) [] p) env) _ _ s
    rw [List.getD_eq_getElem?_getD, List.getElem?_eq_getElem hc] at hk ⊢
    cases e : Γ.P.clss[k]? with
    | none => exact absurd (List.getElem?_eq_none_iff.mp e) (by omega)
    | some C =>
      obtain ⟨hd, hv⟩ := W.clG k C _ e (List.getElem?_eq_getElem hc)
      refine callName (ld_glob W K I hk hd hv (callWith_fn (W.cl k C e).kp ?_))
      refine (sem_xs h).step R I f q fun F₁ α₁ st₁ l vs s₁ hs x₁ I₁ f₁ r₁ q => ⟨kin_here W I₁, ?_⟩
      obtain ⟨C', e', c⟩ := q
      rw [e] at e'; cases e'
      exact post_after hs x₁ (wpAny_call (c A s₁ F₁ α₁ vs R I₁ r₁))
theorem callWith_bi {M : Model} {A : Around} {E : Value → Shared → Prop} {s : Shared} {P : Pg} {b : BI} {xs : Xs} {pos p' : Pos} {Q : Value → Shared → Prop}
    (h : wpAny M A (spliced (backTo p' (starEach (toEs P ns xs) env))) (fun vs s' => wpAny M A (call b.val vs) Q E s') E s) : wpAny M A (callWith pos b.val [] (backTo p' (starEach (toEs P ns xs) env)) []) Q E s := by
  cases b <;> first | exact Calls.callWith_builtin (plain_xs ..) (evalArgs_xs h) | exact PySem.callWith_type (plain_xs ..) (evalArgs_xs h)
theorem bi_dbg (b : BI) : (Str.ofString b.name == ("__debug__" : Str)) = false := by cases b <;> decide
theorem sem_bi (W : WdOK Γ) (K : EOK env ns) {b : BI} {xs : Xs} {np p : Pos} (h : AllS Γ n env ns xs) (hk : env.kindOf (Str.ofString b.name) = some .globalImplicit) : SemX Γ n env ns (.bi b xs np p) :=
  .mk (fun vs st Q => wpXs Γ.P (CallOK Γ n) (NewOK Γ n) xs vs st fun l st => ∃ r, BiR st b l r ∧ Q r st) (fun _ _ _ _ h => h) rfl fun A s F α st vars oa Q R I f q => by
    obtain ⟨hg, hv⟩ := W.bt b
    refine callName (ld_bltn W K I hk (bi_dbg b) hg hv (callWith_bi ?_))
    refine (sem_xs h).step R I f q fun F₁ α₁ st₁ l vs s₁ hs x₁ I₁ f₁ r₁ q => ?_
    obtain ⟨r, e, q⟩ := q
    exact post_after hs x₁ (bi_A R.1 I₁ e r₁ q)
theorem few_xs (P : Pg) (pos : Pos) (xs : Xs) : (backTo pos (starEach (toEs P ns xs) env)).all (fun x => !x.1) = true := by
  induction xs using Xs.rec' with
  | nil => rfl
  | cons x r ih =>
    show (backTo pos (starEach (toE P ns x :: toEs P ns r) env)).all (fun x => !x.1) = true
    rw [starE, List.all_cons, ih]; rfl
theorem len_xs (P : Pg) (xs : Xs) : (toEs P ns xs).length = xs.length := by
  induction xs using Xs.rec' with
  | nil => rfl
  | cons x r ih => exact congrArg Nat.succ ih
theorem methCall {M : Model} {A : Around} {E : Value → Shared → Prop} {s : Shared} {P : Pg} {a : X} {name : Str} {xs : Xs} {ap p : Pos} {Q : Value → Shared → Prop} (hp : plainB a = true) (hl : (ap.endLine == p.line) = true) (hn : xs.length < 30)
    (h : wpAny M A (eval (toE P ns a) env) (fun ov s₁ => wpAny M A (getMethod ov name (do return (← importBound (toE P ns a) env).getD true)) (fun fx s₂ => wpAny M A (callWith p fx.1 fx.2 (backTo p (starEach (toEs P ns xs) env)) []) Q E s₂) E s₁) E s) :
    wpAny M A (eval (.Call (.Attribute (toE P ns a) name ap) (toEs P ns xs) [] p) env) Q E s := by
  rw [arm_eval_Call, base_plain _ hp]
  refine wpAny_bind (wpAny_mono h (fun ov s₁ h₁ => wpAny_bind (wpAny_standAt ?_)) fun _ _ e => e)
  have hform : methodCallForm ((toEs P ns xs).length + ([] : List Keyword).length) (backTo p (starEach (toEs P ns xs) env)) (backToKw p (keywordEach [] env)) = true := by
    unfold methodCallForm
    rw [few_xs, len_xs]
    simp [backToKw, keywordEach]
    omega
  unfold methodCall
  rw [hform]
  refine wpAny_bind (wpAny_holding ?_)
  unfold calleeOf
  rw [if_pos rfl]
  refine wpAny_mono h₁ (fun fx s₂ h₂ => ?_) fun _ _ e => e
  have hpos : methodCallPos true (toE P ns a) env ap p = pure p := by unfold methodCallPos; simp [hl]
  exact wpAny_bind (wpAny_of_eq hpos h₂)
theorem sem_met (W : WdOK Γ) {a : X} {m : Nat} {xs : Xs} {ap p : Pos} (ha : SemX Γ n env ns a) (h : AllS Γ n env ns xs) (hp : plainB a = true) (hl : (ap.endLine == p.line) = true) (hn : xs.length < 30) : SemX Γ n env ns (.met a m xs ap p) :=
  .mk (fun vs st Q => wpX Γ.P (CallOK Γ n) (NewOK Γ n) a false vs st fun v st => match insOf st v with
    | some (k, _) => (match mthOf Γ.P k m with | some f => wpXs Γ.P (CallOK Γ n) (NewOK Γ n) xs vs st fun l st => CallOK Γ n f (v :: l) st Q | none => False)
    | none => False) (fun _ _ _ _ h => h) rfl fun A s F α st vars oa Q R I f q => by
    refine methCall hp hl hn (ha.step R I f q fun F₁ α₁ st₁ av v s₁ hs x₁ I₁ f₁ r₁ q => ?_)
    cases e : insOf st₁ av with
    | none => rw [e] at q; exact q.elim
    | some cf =>
      rw [e] at q
      replace q : (match mthOf Γ.P cf.1 m with | some f => wpXs Γ.P (CallOK Γ n) (NewOK Γ n) xs vars st₁ fun l st => CallOK Γ n f (av :: l) st Q | none => False) := q
      cases hm : mthOf Γ.P cf.1 m with
      | none => rw [hm] at q; exact q.elim
      | some fk =>
        rw [hm] at q
        refine method_A W I₁ e hm r₁ fun fi hfi => ?_
        refine callWith_fn (first := [v]) (W.fn fk fi hfi).kp ?_
        refine (sem_xs h).step R I₁ f₁ q fun F₂ α₂ st₂ l vs s₂ hs₂ x₂ I₂ f₂ r₂ q => ⟨kin_here W I₂, ?_⟩
        obtain ⟨fi', e', c⟩ := q
        rw [hfi] at e'; cases e'
        exact post_after (tr_trans hs hs₂) (x₁.trans x₂) (wpAny_call (c A s₂ F₂ α₂ (v :: vs) R I₂ (.cons (x₂.vr r₁) r₂)))
end
end Mn
end
section
namespace Mn
section
variable {Γ : Wd} {n : Nat} {env : Env} {ns : List String}
theorem boolE (o : BoolOp) {xs : Xs} (h : AllS Γ n env ns xs) : ∀ {A : Around} {s : Shared} {F : Fz} {α : List SA} {st : List AO} {vars : Vars} {oa : Nat → Addr} {Q : AV → List AO → Prop} {pos : Pos}, Room A n → Inv Γ F α st s.heap → Frm F α env ns vars oa s.heap →
    wpB Γ.P (CallOK Γ n) (NewOK Γ n) o xs false vars st Q → wpAny (model Γ.prog Γ.w) A (boolOp pos o (evalEach (toEs Γ.P ns xs) env)) (PostE Γ F α s Q) NE s := by
  induction xs using Xs.rec' with
  | nil => intro A s F α st vars oa Q pos R I f q; exact q.elim
  | cons x r ih =>
    cases r with
    | nil => intro A s F α st vars oa Q pos R I f q; exact h.1 false A s F α st vars oa Q R I f q
    | cons y r =>
      intro A s F α st vars oa Q pos R I f q
      show wpAny _ A (do
        let v ← eval (toE Γ.P ns x) env
        standAt pos
        let t ← holding [v] (truthy v)
        match o, t with
        | .And, false | .Or, true => pure v
        | _, _ => boolOp pos o (evalEach (toEs Γ.P ns (.cons y r)) env)) _ _ s
      refine wpAny_bind (h.1.step R I f q fun F₁ α₁ st₁ av v s₁ hs x₁ I₁ f₁ r₁ q => wpAny_bind (wpAny_standAt (wpAny_bind (wpAny_holding ?_))))
      refine truthy_A I₁ r₁ q fun b tk q => ?_
      have hs' : ∃ k, ({ s₁ with toks := tk } : Shared) = { s with heap := s₁.heap, toks := k } := by
        obtain ⟨k, hk⟩ := hs
        exact ⟨tk, by rw [hk]⟩
      by_cases hb : b = stp o
      · rw [if_pos hb] at q
        have : wpAny (model Γ.prog Γ.w) A (pure v) (PostE Γ F α s Q) NE { s₁ with toks := tk } := wpAny_pure (PostE.after (s₁ := { s₁ with toks := tk }) hs' x₁ (.here' I₁ r₁ q))
        subst hb
        cases o <;> exact this
      · rw [if_neg hb] at q
        have : wpAny (model Γ.prog Γ.w) A (boolOp pos o (evalEach (toEs Γ.P ns (.cons y r)) env)) (PostE Γ F α s Q) NE { s₁ with toks := tk } := post_after hs' x₁ (ih h.2 (s := { s₁ with toks := tk }) R I₁ f₁ q)
        cases o <;> cases b <;> first | exact this | exact absurd rfl hb
theorem boolT (o : BoolOp) {xs : Xs} (h : AllS Γ n env ns xs) : ∀ {A : Around} {s : Shared} {F : Fz} {α : List SA} {st : List AO} {vars : Vars} {oa : Nat → Addr} {Q : AV → List AO → Prop}, Room A n → Inv Γ F α st s.heap → Frm F α env ns vars oa s.heap →
    wpB Γ.P (CallOK Γ n) (NewOK Γ n) o xs true vars st Q → wpAny (model Γ.prog Γ.w) A (allTrue o (toEs Γ.P ns xs) env) (fun b s' => PostE Γ F α s Q (.bool b) s') NE s := by
  induction xs using Xs.rec' with
  | nil => intro A s F α st vars oa Q R I f q; exact q.elim
  | cons x r ih =>
    intro A s F α st vars oa Q R I f q
    show wpAny _ A (allTrue o (toE Γ.P ns x :: toEs Γ.P ns r) env) _ _ s
    rw [arm_allTrue_cons]
    cases r with
    | nil =>
      refine wpAny_bind (h.1.stepT R I f q fun F₁ α₁ st₁ b s₁ hs x₁ I₁ f₁ q => ?_)
      have : wpAny (model Γ.prog Γ.w) A (pure b) (fun b s' => PostE Γ F α s Q (.bool b) s') NE s₁ := wpAny_pure (PostE.after hs x₁ (.here' I₁ (.d_boo b) q))
      cases o <;> cases b <;> exact this
    | cons y r =>
      refine wpAny_bind (h.1.stepT R I f q fun F₁ α₁ st₁ b s₁ hs x₁ I₁ f₁ q => ?_)
      replace q : if b = stp o then Q (.d (.boo b)) st₁ else wpB Γ.P (CallOK Γ n) (NewOK Γ n) o (.cons y r) true vars st₁ Q := q
      by_cases hb : b = stp o
      · rw [if_pos hb] at q
        have : wpAny (model Γ.prog Γ.w) A (pure b) (fun b s' => PostE Γ F α s Q (.bool b) s') NE s₁ := wpAny_pure (PostE.after hs x₁ (.here' I₁ (.d_boo _) q))
        subst hb
        cases o <;> exact this
      · rw [if_neg hb] at q
        have : wpAny (model Γ.prog Γ.w) A (allTrue o (toEs Γ.P ns (.cons y r)) env) (fun b s' => PostE Γ F α s Q (.bool b) s') NE s₁ := post_afterB hs x₁ (ih h.2 R I₁ f₁ q)
        cases o <;> cases b <;> first | exact this | exact absurd rfl hb
theorem sem_bool {o : BoolOp} {xs : Xs} {p : Pos} (h : AllS Γ n env ns xs) : SemX Γ n env ns (.bool o xs p) := by
  intro c A s F α st vars oa Q R I f q
  cases c with
  | true => exact wpAny_isTrue_BoolOp (boolT o h R I f q)
  | false =>
    show wpAny _ A (eval (.BoolOp o (toEs Γ.P ns xs) p) env) _ _ s
    rw [arm_eval_BoolOp]
    exact boolE o h R I f q
theorem DG.dict {F : Fz} {α : List SA} {h : Heap} {p : SA} {ao : AO} {d : D} {r : Option D} (g : DG ao d r) (r : AOR Γ F α h p ao) : ∃ o, h.get? p.1 = some o ∧ o.cls = .type "dict" ∧ o.dict = none := by
  cases g with
  | s => obtain ⟨_, _, kvs, ⟨o, es', ep, ho, hc, hd, rr⟩, _⟩ := r; exact ⟨o, ho, hc.1, hc.2.1⟩
  | i => obtain ⟨_, _, kvs, ⟨o, es', ep, ho, hc, hd, rr⟩, _⟩ := r; exact ⟨o, ho, hc.1, hc.2.1⟩
  | t => obtain ⟨_, _, kvs, ⟨o, es', ep, ho, hc, hd, rr⟩, _⟩ := r; exact ⟨o, ho, hc.1, hc.2.1⟩
  | _ => obtain ⟨_, _, n, ho⟩ := r; exact ⟨_, ho, rfl, rfl⟩
theorem meth_builtin {A : Around} {s : Shared} {F : Fz} {α : List SA} {st : List AO} (I : Inv Γ F α st s.heap) {m : MB} {av : AV} {v : Value} (e : MbT st m av) (r : VR F α av v) {pl : Sem Bool} {Q : Value × List Value → Shared → Prop} (h : Q (.builtin m.id, [v]) s) :
    wpAny (model Γ.prog Γ.w) A (getMethod v (Str.ofString m.name) pl) Q NE s := by
  cases e with
  | lst ho hm =>
    obtain ⟨p, hp, rfl, _, vs, ⟨c, hl⟩, _⟩ := I.obj ho r
    cases m with
    | append => exact getMethod_builtin (T := "list") ⟨_, hl, rfl⟩ PySem.F.plainAttrs_list PySem.F.slot_list_append PySem.F.type_list_append (fun a ea => by cases ea; exact ⟨_, hl, rfl⟩) h
    | pop => exact getMethod_builtin (T := "list") ⟨_, hl, rfl⟩ PySem.F.plainAttrs_list PySem.F.slot_list_pop PySem.F.type_list_pop (fun a ea => by cases ea; exact ⟨_, hl, rfl⟩) h
    | reverse => exact getMethod_builtin (T := "list") ⟨_, hl, rfl⟩ PySem.F.plainAttrs_list PySem.F.slot_list_reverse PySem.F.type_list_reverse (fun a ea => by cases ea; exact ⟨_, hl, rfl⟩) h
    | _ => cases hm
  | get ho g =>
    obtain ⟨p, hp, rfl, R⟩ := I.obj ho r
    obtain ⟨o, hl, hc, hd⟩ := g.dict R
    exact getMethod_builtin (T := "dict") ⟨_, hl, hc⟩ PySem.F.plainAttrs_dict PySem.F.slot_dict_get PySem.F.type_dict_get (fun a ea => by cases ea; exact ⟨_, hl, hd⟩) h
  | str hm =>
    obtain ⟨x, t, rfl⟩ : ∃ x t, v = .str x t := by cases r; exact ⟨_, _, rfl⟩
    cases m with
    | join =>
      replace h : Q (.builtin "str.join", [.str x t]) s := h
      show wpAny _ A (getMethod (.str x t) "join" pl) Q NE s
      with_reducible exact GM.join h
    | split =>
      replace h : Q (.builtin "str.split", [.str x t]) s := h
      show wpAny _ A (getMethod (.str x t) "split" pl) Q NE s
      with_reducible exact GM.split h
    | startswith =>
      replace h : Q (.builtin "str.startswith", [.str x t]) s := h
      show wpAny _ A (getMethod (.str x t) "startswith" pl) Q NE s
      with_reducible exact getMethod_builtin (typeIs_str _ _ _) PySem.F.plainAttrs_str PySem.F.slot_str_startswith PySem.F.type_str_startswith (fun a ea => nomatch ea) h
    | _ => cases hm
theorem sem_mb {a : X} {m : MB} {xs : Xs} {ap p : Pos} (ha : SemX Γ n env ns a) (h : AllS Γ n env ns xs) (hp : plainB a = true) (hl : (ap.endLine == p.line) = true) (hn : xs.length < 30) : SemX Γ n env ns (.mb a m xs ap p) :=
  .mk (fun vs st Q => wpX Γ.P (CallOK Γ n) (NewOK Γ n) a false vs st fun v st => MbT st m v ∧ wpXs Γ.P (CallOK Γ n) (NewOK Γ n) xs vs st fun l st => ∃ r st', MbR st m v l r st' ∧ Q r st') (fun _ _ _ _ h => h) rfl fun A s F α st vars oa Q R I f q => by
    refine methCall hp hl hn (ha.step R I f q fun F₁ α₁ st₁ av v s₁ hs x₁ I₁ f₁ r₁ q => ?_)
    refine meth_builtin I₁ q.1 r₁ ?_
    refine Calls.callWith_builtin (plain_xs ..) (evalArgs_xs ?_)
    refine (sem_xs h).step R I₁ f₁ q.2 fun F₂ α₂ st₂ l vs s₂ hs₂ x₂ I₂ f₂ r₂ q => ?_
    obtain ⟨r, st₃, e, q⟩ := q
    exact post_after (tr_trans hs hs₂) (x₁.trans x₂) (mb_A (by have := room_u R; omega) I₂ e (x₂.vr r₁) r₂ q)
theorem pick_to (vs : List Value) {k : Int} (h : 0 ≤ k) : slicePick vs.toArray none (some k) none = (vs.take k.toNat).toArray := by
  have e : sliceBounds none (some k) none vs.toArray.size = (((0 : Nat) : Int), ((min k.toNat vs.toArray.size : Nat) : Int), 1) := by
    simp only [sliceBounds, Option.getD_none, show (1 : Int) > 0 by decide, if_true, if_neg (show ¬ (k < 0) by omega)]
    congr 1
    congr 1
    omega
  rw [kmk_pick_nat _ e]
  show ((vs.drop 0).take (min k.toNat vs.toArray.size - 0)).toArray = _
  rw [List.drop_zero, Nat.sub_zero, List.size_toArray, kmk_take_min]
noncomputable def isLoc : X → Bool
  | .loc .. => true
  | _ => false
theorem sem_slcTo {a i : X} {sp p : Pos} (hl : isLoc a = true) (ha : SemX Γ n env ns a) (hi : SemX Γ n env ns i) : SemX Γ n env ns (.slcTo a i sp p) :=
  .mk (fun vs st Q => wpX Γ.P (CallOK Γ n) (NewOK Γ n) a false vs st fun x st => wpX Γ.P (CallOK Γ n) (NewOK Γ n) i false vs st fun y st => ∃ r, ToR x y r ∧ Q r st) (fun _ _ _ _ h => h) rfl fun A s F α st vars oa Q R I f q => by
    refine wpAny_Subscript_list_slice (ha.step R I f q fun F₁ α₁ st₁ x v s₁ hs x₁ I₁ f₁ r₁ q => ?_) (by cases a <;> first | (intro _ _; rfl) | cases hl)
    rw [evalPart_none, evalPart_some]
    refine wpAny_pure (hi.step R I₁ f₁ q fun F₂ α₂ st₂ y u s₂ hs₂ x₂ I₂ f₂ r₂ q => ?_)
    obtain ⟨r, e, q⟩ := q
    replace r₁ := x₂.vr r₁
    cases e with
    | @lst l k hk =>
      obtain ⟨b, vs, rfl, hl, hr⟩ := DR.lstAt I₂.agree r₁
      obtain ⟨t, rfl⟩ : ∃ t, u = .int k t := by cases r₂; exact ⟨_, rfl⟩
      refine ⟨b, vs.toArray, none, some k, rfl, hl, ?_, .none, .int _ _, ?_⟩
      · rw [List.size_toArray, ← hr.length]; exact hk.2.2
      · rw [pick_to _ hk.1]
        have J := I₂.pushAny { cls := .type "slice", data := .fields #[.none, .int k t, .none] }
        have D := post_made (s := { s₂ with heap := s₂.heap.push { cls := .type "slice", data := .fields #[.none, .int k t, .none] } }) J rfl (dr_lst_new (s := { s₂ with heap := s₂.heap.push { cls := .type "slice", data := .fields #[.none, .int k t, .none] } }) J (hr.take k.toNat)) q s₂.toks
        refine PostE.after (tr_trans hs hs₂) (x₁.trans x₂) (PostE.after (s₁ := { s₂ with heap := s₂.heap.push { cls := .type "slice", data := .fields #[.none, .int k t, .none] } }) ⟨_, rfl⟩ (ext_keeps _ _ fun b o e => Heap.get?_push_of_some _ e) ?_)
        rw [Heap.size_push] at D
        exact D
end
end Mn
end
section
open PySem PySem.W PyProof.Rows PySem.Builtin.Str
namespace Mn
theorem str_idx_from (k : Int) (h : 0 ≤ k) (m : Nat) : strSliceIndices (some k) none 1 m = (List.range (m - min k.toNat m)).map (min k.toNat m + ·) := by
  unfold strSliceIndices
  have e1 : (if k < 0 then k + (m : Int) else k) = k := if_neg (by omega)
  simp only [show (1 : Int) > 0 by decide, if_true, e1]
  have e2 : max 0 (min k (m : Int)) = ((min k.toNat m : Nat) : Int) := by omega
  rw [e2, sliceRange_one]
theorem str_made_from {x : List Nat} {t u : Tok} {k : Int} (h : 0 ≤ k) (hz : x.length ≤ big) {Q : Value → Shared → Prop} {s : Shared} (q : ∀ t' tk, Q (.str ⟨(x.drop k.toNat).toArray⟩ t') { s with toks := tk }) : (sliceMade ⟨x.toArray⟩ t (some (k, u)) none none).post Q s := by
  have hp : slicePicked ⟨x.toArray⟩ (some (k, u)) none none = (List.range (x.length - min k.toNat x.length)).map (min k.toNat x.length + ·) := by
    unfold slicePicked
    rw [str_len]
    exact str_idx_from k h _
  unfold sliceMade
  rw [hp]
  split
  · rename_i e
    rw [List.length_map, List.length_range, str_len] at e
    have : x.drop k.toNat = x := by
      have e' : x.length - min k.toNat x.length = x.length := by simpa using e
      by_cases h0 : x.length = 0
      · rw [List.length_eq_zero_iff.mp h0, List.drop_nil]
      · have : k.toNat = 0 := by omega
        rw [this, List.drop_zero]
    have q' := q t s.toks
    rw [this] at q'
    exact q'
  · rw [pick_run]
    have : ((x.toArray.toList.drop (min k.toNat x.length)).take (x.length - min k.toNat x.length)) = x.drop k.toNat := by
      show (x.drop (min k.toNat x.length)).take _ = _
      rw [kmk_drop_min, List.take_of_length_le (by rw [List.length_drop]; omega)]
    rw [this]
    refine ⟨?_, q _ _⟩
    rw [str_len, List.length_drop]
    have : big = sizeLine := rfl
    omega
section
variable {Γ : Wd} {n : Nat} {env : Env} {ns : List String}
theorem sem_slcFrom {a i : X} {sp p : Pos} (hl : isLoc a = true) (ha : SemX Γ n env ns a) (hi : SemX Γ n env ns i) : SemX Γ n env ns (.slcFrom a i sp p) :=
  .mk (fun vs st Q => wpX Γ.P (CallOK Γ n) (NewOK Γ n) a false vs st fun x st => wpX Γ.P (CallOK Γ n) (NewOK Γ n) i false vs st fun y st => ∃ r, FromR x y r ∧ Q r st) (fun _ _ _ _ h => h) rfl fun A s F α st vars oa Q R I f q => by
    refine wpAny_Subscript_str_slice (ha.step R I f q fun F₁ α₁ st₁ x v s₁ hs x₁ I₁ f₁ r₁ q => ?_) (by cases a <;> first | (intro _ _; rfl) | cases hl)
    rw [evalPart_some]
    refine hi.step R I₁ f₁ q fun F₂ α₂ st₂ y u s₂ hs₂ x₂ I₂ f₂ r₂ q => ?_
    rw [evalPart_none]
    refine wpAny_pure ?_
    obtain ⟨r, e, q⟩ := q
    replace r₁ := x₂.vr r₁
    cases e with
    | @str l k hk =>
      obtain ⟨t, rfl⟩ : ∃ t, v = .str ⟨l.toArray⟩ t := by cases r₁; exact ⟨_, rfl⟩
      obtain ⟨tu, rfl⟩ : ∃ t, u = .int k t := by cases r₂; exact ⟨_, rfl⟩
      refine ⟨_, t, some (k, tu), none, rfl, rfl, rfl, str_made_from hk.1 hk.2.2 fun t' tk => ?_⟩
      refine PostE.after (tr_trans hs hs₂) (x₁.trans x₂) ?_
      exact post_keeps I₂ (fun b o e => Heap.get?_push_of_some _ e) (.d_str _ _) q
section
variable (P : Pg) (g : Str → Bool)
mutual
noncomputable def okY : X → Bool
  | .loc .. => true
  | .cint .. => true
  | .cstr .. => true
  | .cnon .. => true
  | .cboo .. => true
  | .newl .. => true
  | .newls as _ => okYs as
  | .newd .. => true
  | .gv k _ => g (Str.ofString ((P.gtab.map (·.1)).getD k ""))
  | .neg a _ => okY a
  | .not a _ => okY a
  | .bin _ a b _ => okY a && okY b
  | .cmp _ a b _ => okY a && okY b
  | .bool _ as _ => okYs as
  | .ite t a b _ => okY t && okY a && okY b
  | .tup as _ _ => okYs as
  | .lst as _ => okYs as
  | .att a f _ => decide (f < P.flds.length) && plainB a && okY a
  | .idx a i _ => okY a && okY i
  | .slcTo a i _ _ => isLoc a && okY a && okY i
  | .slcFrom a i _ _ => isLoc a && okY a && okY i
  | .cal f as _ _ => g (Str.ofString ((P.fns.map (·.gname)).getD f "")) && ((P.fns.map (·.gname)).getD f "" != "") && okYs as
  | .new c as _ _ => g (Str.ofString (P.clsN.getD c "")) && decide (c < P.clsN.length) && decide (c < P.clss.length) && okYs as
  | .bi b as _ _ => g (Str.ofString b.name) && okYs as
  | .met a _ as ap p => plainB a && (ap.endLine == p.line) && decide (as.length < 30) && okY a && okYs as
  | .jrev .. => false
  | .comp .. => false
  | .mb a _ as ap p => plainB a && (ap.endLine == p.line) && decide (as.length < 30) && okY a && okYs as
noncomputable def okYs : Xs → Bool
  | .nil => true
  | .cons x r => okY x && okYs r
end
end
theorem and2 {a b : Bool} (h : (a && b) = true) : a = true ∧ b = true := by
  cases a
  · cases h
  · exact ⟨rfl, h⟩
variable (W : WdOK Γ) (EK : EOK env ns) (g : Str → Bool) (hg : ∀ x, g x = true → env.kindOf x = some .globalImplicit)
include W EK hg
mutual
theorem semX : ∀ x : X, okY Γ.P g x = true → SemX Γ n env ns x
  | .loc i p, _ => sem_loc EK
  | .cint .., _ => sem_cint
  | .cstr .., _ => sem_cstr
  | .cnon .., _ => sem_cnon
  | .cboo .., _ => sem_cboo
  | .newl .., _ => sem_newl
  | .newls as _, h => sem_newls (semXs as h)
  | .newd .., _ => sem_newd W
  | .gv k _, h => sem_gv W EK (hg _ h)
  | .neg a _, h => sem_neg (semX a h)
  | .not a _, h => sem_not (semX a h)
  | .bin _ a b _, h => sem_bin (semX a (and2 h).1) (semX b (and2 h).2)
  | .cmp _ a b _, h => sem_cmp (semX a (and2 h).1) (semX b (and2 h).2)
  | .bool _ as _, h => sem_bool (semXs as h)
  | .ite t a b _, h => sem_ite (semX t (and2 (and2 h).1).1) (semX a (and2 (and2 h).1).2) (semX b (and2 h).2)
  | .tup as _ _, h => sem_tup (semXs as h)
  | .lst as _, h => sem_lst (semXs as h)
  | .att a f _, h => sem_att W (semX a (and2 h).2) (of_decide_eq_true (and2 (and2 h).1).1) (and2 (and2 h).1).2
  | .idx a i _, h => sem_idx (semX a (and2 h).1) (semX i (and2 h).2)
  | .slcTo a i _ _, h => sem_slcTo (and2 (and2 h).1).1 (semX a (and2 (and2 h).1).2) (semX i (and2 h).2)
  | .slcFrom a i _ _, h => sem_slcFrom (and2 (and2 h).1).1 (semX a (and2 (and2 h).1).2) (semX i (and2 h).2)
  | .cal f as _ _, h => sem_cal W EK (semXs as (and2 h).2) (hg _ (and2 (and2 h).1).1) (and2 (and2 h).1).2
  | .new c as _ _, h => sem_new W EK (semXs as (and2 h).2) (hg _ (and2 (and2 (and2 h).1).1).1) (of_decide_eq_true (and2 (and2 (and2 h).1).1).2) (of_decide_eq_true (and2 (and2 h).1).2)
  | .bi b as _ _, h => sem_bi W EK (semXs as (and2 h).2) (hg _ (and2 h).1)
  | .met a _ as ap p, h => sem_met W (semX a (and2 (and2 h).1).2) (semXs as (and2 h).2) (and2 (and2 (and2 (and2 h).1).1).1).1 (and2 (and2 (and2 (and2 h).1).1).1).2 (of_decide_eq_true (and2 (and2 (and2 h).1).1).2)
  | .mb a _ as ap p, h => sem_mb (semX a (and2 (and2 h).1).2) (semXs as (and2 h).2) (and2 (and2 (and2 (and2 h).1).1).1).1 (and2 (and2 (and2 (and2 h).1).1).1).2 (of_decide_eq_true (and2 (and2 (and2 h).1).1).2)
  | .jrev .., h => nomatch h
  | .comp .., h => nomatch h
theorem semXs : ∀ xs : Xs, okYs Γ.P g xs = true → AllS Γ n env ns xs
  | .nil, _ => trivial
  | .cons x r, h => ⟨semX x (and2 h).1, semXs r (and2 h).2⟩
end
end
end Mn
end
section
namespace Mn
section
variable {Γ : Wd} {n : Nat} {env : Env} {ns : List String}
theorem walks_lt {prog : Program} {w : World} {A : Around} {I : Addr} {fp wr : List Addr} {n : Nat} {P : Nat → Value → Prop} {St : Nat → Heap → Prop} (W : Walks prog w A I fp wr n P St) : Walks prog w A I fp wr n (fun i v => P i v ∧ i < n) St where
  sub := W.sub
  frame := W.frame
  item := fun i s Q E hi st hQ => W.item i s Q E hi st fun v h' tk p => hQ v h' tk ⟨p, hi⟩
  done := W.done
  self := W.self
structure ItW (Γ : Wd) (A : Around) (F : Fz) (I : Addr) (l : List D) (fp : List Addr) (Pv : Nat → Value → Prop) (St : Nat → Heap → Prop) : Prop where
  wk : Walks Γ.prog Γ.w A I fp [I] l.length Pv St
  fp : ∀ b ∈ fp, b = I ∨ ∃ o, F b = some o
  val : ∀ i v, Pv i v → ∃ d, l[i]? = some d ∧ DR F d v
  lv : ∀ (i : Nat) (h : Heap), St i h → ∃ o, h.get? I = some o
  go : ∀ (i : Nat) (s : Shared) (y : List D) (v : Value) (elts : List PySem.Expr) (k : Nat) (pos : Pos) (Q : Unit → Shared → Prop) (E : Value → Shared → Prop), St i s.heap → (∃ j : Nat, l[j]? = some (D.tup y)) → Q () s → wpAny (model Γ.prog Γ.w) A (letOwnedTupleGo (.Tuple elts k pos) (.ref I) v) Q E s
theorem go_other {A : Around} {s : Shared} {I : Addr} {o : Obj} {nm : String} {elts : List PySem.Expr} {k : Nat} {pos : Pos} {v : Value} {Q : Unit → Shared → Prop} {E : Value → Shared → Prop} (ho : s.heap.get? I = some o) (hc : o.cls = .type nm)
    (hn : ["enumerate", "zip", "dict_itemiterator", "dict_reverseitemiterator", "odict_iterator", "itertools.zip_longest", "itertools.pairwise"].contains nm = false) (hQ : Q () s) :
    wpAny (model Γ.prog Γ.w) A (letOwnedTupleGo (.Tuple elts k pos) (.ref I) v) Q E s := by
  cases v with
  | ref T =>
    unfold letOwnedTupleGo
    refine wpAny_bind (wpAny_load ho ?_)
    rw [hc]
    split
    · rename_i nm' vs h1 h2
      cases h1
      rw [hn, Bool.false_and, if_neg Bool.false_ne_true]
      exact wpAny_pure hQ
    · exact wpAny_pure hQ
  | _ => exact wpAny_pure hQ
theorem itw_list {A : Around} (hh : A.handled = none) {F : Fz} {I ax : Addr} {l : List D} {vs : List Value} {o : Obj} (hne : ax ≠ I) (hF : F ax = some o) (hr : DRs F l vs) :
    ItW Γ A F I l [I, ax] (fun i v => vs.toArray[i]? = some v) (fun i h => h.IsListIter I ax i ∧ h.IsList ax vs.toArray) where
  wk := by
    have := Walks.list (prog := Γ.prog) (w := Γ.w) hh I ax hne vs.toArray
    rw [List.size_toArray, ← hr.length] at this
    exact this
  fp := fun b hb => by
    rcases List.mem_cons.mp hb with e | hb
    · exact .inl e
    · rw [List.mem_singleton] at hb; exact .inr ⟨o, hb ▸ hF⟩
  val := fun i v h => hr.get' i v (by simpa using h)
  lv := fun i h st => let ⟨⟨o, ho, _⟩, _⟩ := st; ⟨o, ho⟩
  go := fun i s y v elts k pos Q E st _ hQ => by
    obtain ⟨⟨o, ho, hc, _⟩, _⟩ := st
    exact go_other ho hc (by decide) hQ
theorem itw_tuple {A : Around} (hh : A.handled = none) {F : Fz} {I ax : Addr} {l : List D} {vs : List Value} {o : Obj} (hne : ax ≠ I) (hF : F ax = some o) (hr : DRs F l vs) :
    ItW Γ A F I l [I, ax] (fun i v => vs.toArray[i]? = some v) (fun i h => h.IsTupleIter I ax i ∧ h.IsTuple ax vs.toArray) where
  wk := by
    have := Walks.tuple (prog := Γ.prog) (w := Γ.w) hh I ax hne vs.toArray
    rw [List.size_toArray, ← hr.length] at this
    exact this
  fp := fun b hb => by
    rcases List.mem_cons.mp hb with e | hb
    · exact .inl e
    · rw [List.mem_singleton] at hb; exact .inr ⟨o, hb ▸ hF⟩
  val := fun i v h => hr.get' i v (by simpa using h)
  lv := fun i h st => let ⟨⟨o, ho, _⟩, _⟩ := st; ⟨o, ho⟩
  go := fun i s y v elts k pos Q E st _ hQ => by
    obtain ⟨⟨o, ho, hc, _⟩, _⟩ := st
    exact go_other ho hc (by decide) hQ
theorem itw_rev {A : Around} (hh : A.handled = none) {F : Fz} {I ax : Addr} {l : List D} {vs : List Value} {o : Obj} (hne : ax ≠ I) (hF : F ax = some o) (hr : DRs F l vs) :
    ItW Γ A F I l.reverse [I, ax] (fun i v => vs.toArray[vs.toArray.size - 1 - i]? = some v ∧ i < vs.toArray.size) (fun i h => i ≤ vs.toArray.size ∧ h.IsRevIter I ax ((vs.toArray.size : Int) - 1 - (i : Int)) ∧ h.IsList ax vs.toArray) where
  wk := by
    have W := walks_lt (Walks.listRev (prog := Γ.prog) (w := Γ.w) hh I ax hne vs.toArray)
    have e : l.reverse.length = vs.toArray.size := by rw [List.length_reverse, List.size_toArray, hr.length]
    rw [e]
    exact W
  fp := fun b hb => by
    rcases List.mem_cons.mp hb with e | hb
    · exact .inl e
    · rw [List.mem_singleton] at hb; exact .inr ⟨o, hb ▸ hF⟩
  val := fun i v h => by
    obtain ⟨h, hi⟩ := h
    refine hr.reverse.get' i v ?_
    rw [List.getElem?_reverse (by simpa using hi)]
    simpa using h
  lv := fun i h st => let ⟨_, ⟨o, ho, _⟩, _⟩ := st; ⟨o, ho⟩
  go := fun i s y v elts k pos Q E st _ hQ => by
    obtain ⟨_, ⟨o, ho, hc, _⟩, _⟩ := st
    exact go_other ho hc (by decide) hQ
theorem itw_str {A : Around} {F : Fz} {I : Addr} {x : List Nat} {St : Nat → Heap → Prop} (W : Walks Γ.prog Γ.w A I [I] [I] x.toArray.size (SignAt ⟨x.toArray⟩) St) (hlv : ∀ (i : Nat) (h : Heap), St i h → ∃ o, h.get? I = some o) :
    ItW Γ A F I (x.map fun c => .str [c]) [I] (SignAt ⟨x.toArray⟩) St where
  wk := by
    rw [List.length_map, ← List.size_toArray]
    exact W
  fp := fun b hb => .inl (List.mem_singleton.mp hb)
  val := fun i v h => by
    obtain ⟨c, u, hc, rfl⟩ := h
    refine ⟨.str [c], ?_, DR.str [c] u⟩
    rw [List.getElem?_map]
    have : x[i]? = some c := by simpa using hc
    rw [this]; rfl
  lv := hlv
  go := fun i s y v elts k pos Q E st h hQ => by
    obtain ⟨j, h⟩ := h
    rw [List.getElem?_map] at h
    cases e : x[j]? with
    | none => rw [e] at h; cases h
    | some c => rw [e] at h; cases h
theorem itw_range {A : Around} (hh : A.handled = none) {F : Fz} {I : Addr} {m : Nat} :
    ItW Γ A F I ((List.range m).map fun i => .int (Int.ofNat i)) [I] (fun i v => (∃ t, v = .int ((0 : Int) + i * 1) t) ∧ i < m) (fun i h => IsRangeIter h I ((0 : Int) + (i : Nat) * 1) ((m : Int) - (i : Nat)) 1) where
  wk := by
    rw [List.length_map, List.length_range]
    exact walks_lt (Walks.range hh I 0 1 m)
  fp := fun b hb => .inl (List.mem_singleton.mp hb)
  val := fun i v h => by
    obtain ⟨⟨t, rfl⟩, hi⟩ := h
    refine ⟨.int (Int.ofNat i), by rw [List.getElem?_map, List.getElem?_range hi]; rfl, ?_⟩
    have e : (0 : Int) + i * 1 = Int.ofNat i := by show (0 : Int) + (i : Int) * 1 = (i : Int); omega
    rw [e]
    exact DR.int _ _
  lv := fun i h st => ⟨_, st⟩
  go := fun i s y v elts k pos Q E st h hQ => by
    obtain ⟨j, h⟩ := h
    rw [List.getElem?_map] at h
    cases e : (List.range m)[j]? with
    | none => rw [e] at h; cases h
    | some c => rw [e] at h; cases h
noncomputable def ItP (Γ : Wd) (A : Around) (F : Fz) (α : List SA) (s : Shared) (Q : List D → List AO → Prop) (itv : Value) (s₂ : Shared) : Prop :=
  ∃ it F' α' st' l fp Pv St, itv = .ref it ∧ (∃ tk, s₂ = { s with heap := s₂.heap, toks := tk }) ∧ ExtE F α s.heap F' α' s₂.heap ∧ Inv Γ F' α' st' s₂.heap ∧ s.heap.get? it = none ∧ F' it = none ∧ it ∉ sAddrs α' ∧ ItW Γ A F' it l fp Pv St ∧ St 0 s₂.heap ∧ Q l st'
theorem none_back {X : Addr → Prop} {F F' : Fz} {α α' : List SA} {h h' : Heap} (x : Ext X F α h F' α' h') {a : Addr} (e : h'.get? a = none) : h.get? a = none := by
  cases e' : h.get? a with
  | none => rfl
  | some o => obtain ⟨o', h2⟩ := x.stay a o e'; rw [e] at h2; cases h2
theorem itp_new {A : Around} {F F₁ : Fz} {α α₁ : List SA} {st₁ : List AO} {s s₁ : Shared} {Q : List D → List AO → Prop} {o : Obj} {l : List D} {fp : List Addr} {Pv : Nat → Value → Prop} {St : Nat → Heap → Prop}
    (hs : ∃ tk, s₁ = { s with heap := s₁.heap, toks := tk }) (x : ExtE F α s.heap F₁ α₁ s₁.heap) (I : Inv Γ F₁ α₁ st₁ s₁.heap) (W : ItW Γ A F₁ s₁.heap.objs.size l fp Pv St) (h0 : St 0 (s₁.heap.push o)) (q : Q l st₁) :
    ItP Γ A F α s Q (.ref s₁.heap.objs.size) { s₁ with heap := s₁.heap.push o } := by
  have hn := none_new (h := s₁.heap) rfl
  exact ⟨_, F₁, α₁, st₁, l, fp, Pv, St, rfl, tr_trans hs ⟨_, rfl⟩, x.trans (ext_keeps _ _ fun b o e => Heap.get?_push_of_some _ e), I.pushAny o, none_back x hn, I.fnone hn, I.anone hn, W, h0, q⟩
theorem lst_obj {F : Fz} {l : List D} {v : Value} (r : DR F (.lst l) v) : ∃ a o vs n, v = .ref a ∧ F a = some o ∧ o.cls = .type "list" ∧ o.data = .seq (List.toArray vs) n ∧ DRs F l vs := by
  cases r with
  | lst h c e q => exact ⟨_, _, _, _, rfl, h, c, e, q⟩
theorem tup_obj {F : Fz} {l : List D} {v : Value} (r : DR F (.tup l) v) : ∃ a o vs n, v = .ref a ∧ F a = some o ∧ o.cls = .type "tuple" ∧ o.data = .seq (List.toArray vs) n ∧ DRs F l vs := by
  cases r with
  | tup h c e q => exact ⟨_, _, _, _, rfl, h, c, e, q⟩
noncomputable def kOK (env : Env) : IK → Prop
  | .over => True
  | .range .. => env.kindOf (Str.ofString "range") = some .globalImplicit
  | .rev .. => env.kindOf (Str.ofString "reversed") = some .globalImplicit
theorem one_arg {A : Around} {s : Shared} {x : X} {pos : Pos} {K : List Value → Shared → Prop} (h : wpAny (model Γ.prog Γ.w) A (eval (toE Γ.P ns x) env) (fun v s' => K [v] s') NE s) : wpAny (model Γ.prog Γ.w) A (spliced (backTo pos (starEach (toEs Γ.P ns (.cons x .nil)) env))) K NE s := by
  show wpAny _ A (spliced (backTo pos (starEach (toE Γ.P ns x :: []) env))) _ _ _
  rw [starE]
  exact Calls.spliced_cons (wpAny_mono h (fun _ _ q => Calls.spliced_nil q) fun _ _ e => e)
theorem iter_start (W : WdOK Γ) (EK : EOK env ns) {k : IK} {x : X} (hx : SemX Γ n env ns x) (hk : kOK env k) {A : Around} {s : Shared} {F : Fz} {α : List SA} {st : List AO} {vars : Vars} {oa : Nat → Addr} {Q : List D → List AO → Prop} (R : Room A n) (I : Inv Γ F α st s.heap) (f : Frm F α env ns vars oa s.heap)
    (w : wpX Γ.P (CallOK Γ n) (NewOK Γ n) x false vars st fun v st => ∃ l, ItR k v l ∧ Q l st) :
    wpAny (model Γ.prog Γ.w) A (eval (toIt Γ.P ns k x) env) (fun xv s₁ => wpAny (model Γ.prog Γ.w) A (pyIter xv) (ItP Γ A F α s Q) NE s₁) NE s := by
  cases k with
  | over =>
    refine hx.step R I f w fun F₁ α₁ st₁ av v s₁ hs x₁ I₁ f₁ r₁ q => ?_
    obtain ⟨l, e, q⟩ := q
    cases e with
    | lst =>
      obtain ⟨a, o, vs, c, rfl, hF, hc, hd, hr⟩ := lst_obj r₁
      have hl : s₁.heap.IsList a vs.toArray := ⟨o, I₁.agree _ _ hF, hc, c, hd⟩
      have hne : a ≠ s₁.heap.objs.size := Nat.ne_of_lt (Heap.lt_size (I₁.agree _ _ hF))
      exact wpAny_pyIter_list hl (itp_new hs x₁ I₁ (itw_list R.1 hne hF hr) ⟨⟨_, Heap.get?_push_size _ rfl, rfl, rfl⟩, hl.push _⟩ q)
    | tup =>
      obtain ⟨a, o, vs, c, rfl, hF, hc, hd, hr⟩ := tup_obj r₁
      have hl : s₁.heap.IsTuple a vs.toArray := ⟨o, I₁.agree _ _ hF, hc, c, hd⟩
      have hne : a ≠ s₁.heap.objs.size := Nat.ne_of_lt (Heap.lt_size (I₁.agree _ _ hF))
      exact wpAny_pyIter_tuple hl (itp_new hs x₁ I₁ (itw_tuple R.1 hne hF hr) ⟨⟨_, Heap.get?_push_size _ rfl, rfl, rfl⟩, hl.push _⟩ q)
    | @str y =>
      obtain ⟨t, rfl⟩ : ∃ t, v = .str ⟨y.toArray⟩ t := by cases r₁; exact ⟨_, rfl⟩
      cases ha : (⟨y.toArray⟩ : Str).cps.all (· < 128)
      · exact wpAny_pyIter_wide ha (itp_new hs x₁ I₁ (itw_str (Walks.strWide R.1 _ ⟨y.toArray⟩ t) fun i h st => let ⟨o, ho, _⟩ := st; ⟨o, ho⟩) ⟨_, Heap.get?_push_size _ rfl, rfl, rfl⟩ q)
      · exact wpAny_pyIter_ascii ha (itp_new hs x₁ I₁ (itw_str (Walks.strAscii R.1 _ ⟨y.toArray⟩ t) fun i h st => let ⟨o, ho, _⟩ := st; ⟨o, ho⟩) ⟨_, Heap.get?_push_size _ rfl, rfl, rfl⟩ q)
  | range np p =>
    obtain ⟨hg, hv⟩ := W.br
    refine callName (xs := .cons x .nil) (ld_bltn W EK I hk (by decide) hg hv (PySem.callWith_type (plain_xs (ns := ns) Γ.P _ (.cons x .nil)) (evalArgs_xs (ns := ns) (P := Γ.P) (xs := .cons x .nil) (one_arg ?_))))
    refine hx.step R I f w fun F₁ α₁ st₁ av v s₁ hs x₁ I₁ f₁ r₁ q => ?_
    obtain ⟨l, e, q⟩ := q
    cases e with
    | @range m _ _ hm =>
      obtain ⟨t, rfl⟩ : ∃ t, v = .int m t := by cases r₁; exact ⟨_, rfl⟩
      refine call_range_1 (wpAny_pyIter_range (IsRange.new ..) ?_ ?_)
      · exact small_one (by decide) (by decide) (by omega) (by omega)
      · refine itp_new (s₁ := { s₁ with heap := s₁.heap.push { cls := .type "range", data := .fields #[.int 0 s₁.toks, .int m t, .int 1 (s₁.toks + 1)] }, toks := s₁.toks + 1 + 1 }) (tr_trans hs ⟨_, rfl⟩) (x₁.trans (ext_keeps _ _ fun b o e => Heap.get?_push_of_some _ e)) (I₁.pushAny _) (itw_range R.1 (m := m.toNat)) ?_ q
        have e : Builtin.Range.rangeSize 0 m 1 = ((m.toNat : Nat) : Int) := by
          rw [rangeSize_one]
          split <;> omega
        rw [e]
        have e2 : ((m.toNat : Nat) : Int) - ((0 : Nat) : Int) = ((m.toNat : Nat) : Int) := Int.sub_zero _
        show IsRangeIter _ _ ((0 : Int) + ((0 : Nat) : Int) * 1) (((m.toNat : Nat) : Int) - ((0 : Nat) : Int)) 1
        rw [e2]
        exact Heap.get?_push_size _ rfl
  | rev np p =>
    obtain ⟨hg, hv⟩ := W.bv
    refine callName (xs := .cons x .nil) (ld_bltn W EK I hk (by decide) hg hv (PySem.callWith_type (plain_xs (ns := ns) Γ.P _ (.cons x .nil)) (evalArgs_xs (ns := ns) (P := Γ.P) (xs := .cons x .nil) (one_arg ?_))))
    refine hx.step R I f w fun F₁ α₁ st₁ av v s₁ hs x₁ I₁ f₁ r₁ q => ?_
    obtain ⟨l, e, q⟩ := q
    cases e with
    | rev =>
      obtain ⟨a, o, vs, c, rfl, hF, hc, hd, hr⟩ := lst_obj r₁
      have hl : s₁.heap.IsList a vs.toArray := ⟨o, I₁.agree _ _ hF, hc, c, hd⟩
      have hne : a ≠ s₁.heap.objs.size := Nat.ne_of_lt (Heap.lt_size (I₁.agree _ _ hF))
      have hrev : (s₁.heap.push (revObj a ((vs.toArray.size : Int) - 1))).IsRevIter s₁.heap.objs.size a ((vs.toArray.size : Int) - 1) := ⟨_, Heap.get?_push_size _ rfl, rfl, rfl⟩
      refine call_reversed_list hl (wpAny_pyIter_revIter hrev ?_)
      refine itp_new hs x₁ I₁ (itw_rev R.1 hne hF hr) ⟨Nat.zero_le _, ?_, hl.push _⟩ q
      simpa using hrev
end
end Mn
end
section
namespace Mn
theorem Frm.extX {F F' : Fz} {α α' : List SA} {env : Env} {ns : List String} {vars : Vars} {oa : Nat → Addr} {h h' : Heap} {Y : Addr → Prop} (f : Frm F α env ns vars oa h) (x : Ext Y F α h F' α' h') (hY : ∀ a, Y a → a ∉ fpOf env ∧ ∀ (i : Nat) (l : List D), vars[i]? = some (some (.own l)) → a ≠ oa i) : Frm F' α' env ns vars oa h' := by
  obtain ⟨β, rfl, hβ⟩ := x.pre
  have kp : ∀ a ∈ fpOf env, ∀ o, h.get? a = some o → h'.get? a = some o := fun a ha o e => (x.keep a o e (f.fp a ha).2.1 fun y => (hY a y).1 ha).1
  have kF : ∀ a ∈ fpOf env, F' a = F a := fun a ha => let ⟨_, h2, o, e⟩ := f.fp a ha; (x.keep a o e h2 fun y => (hY a y).1 ha).2
  have ko : ∀ (i : Nat) (l : List D), vars[i]? = some (some (.own l)) → (∀ o, h.get? (oa i) = some o → h'.get? (oa i) = some o) ∧ F' (oa i) = F (oa i) ∧ oa i ∉ sAddrs (α ++ β) := fun i l e => by
    obtain ⟨_, _, _, vs, ⟨n, hl⟩, _⟩ := own_lt f e
    have hm := (f.own i l e).2.1
    have hy : ¬ Y (oa i) := fun y => (hY _ y).2 i l e rfl
    exact ⟨fun o e' => (x.keep _ o e' hm hy).1, (x.keep _ _ hl hm hy).2, not_mem_ext hl hm hβ⟩
  refine ⟨?_, f.len, fun i y av hy hv => ?_, fun a ha => ?_, fun i l e => ?_, f.oinj, fun c hc => ?_⟩
  · obtain ⟨m, o, es, ep, ho, r⟩ := f.hn
    exact ⟨m, o, es, ep, kp _ (fp_locals env) _ ho, r⟩
  · obtain ⟨v, hn, hr⟩ := f.at_ i y av hy hv
    refine ⟨v, hn.at kp, ?_⟩
    cases av with
    | d y => exact DR.mono x.sub hr
    | ob n => obtain ⟨p, hp, e⟩ := hr; exact ⟨p, get_prefix hp, e⟩
    | own l =>
      obtain ⟨e, vs, ⟨o, ho⟩, q⟩ := hr
      exact ⟨e, vs, ⟨o, (ko i l hv).1 _ ho⟩, q.mono x.sub⟩
  · obtain ⟨h1, h2, o, h3⟩ := f.fp a ha
    exact ⟨(kF a ha).trans h1, not_mem_ext h3 h2 hβ, o, kp a ha o h3⟩
  · obtain ⟨h1, h2, h3⟩ := f.own i l e
    exact ⟨(ko i l e).2.1.trans h1, (ko i l e).2.2, h3⟩
  · obtain ⟨v, o, ho, hd⟩ := f.cells c hc
    exact ⟨v, o, kp c (List.mem_cons_of_mem _ hc) _ ho, hd⟩
noncomputable def StOK (env : Env) (ns : List String) : Prop := ∀ x ∈ ns, env.kindOf (Str.ofString x) = some .local ∨ (env.kindOf (Str.ofString x) = some .cell ∧ (env.cells.lookup (Str.ofString x)).isSome = true)
structure FrS (X : Addr → Prop) (F : Fz) (α : List SA) (env : Env) (ns : List String) (vars : Vars) (oa : Nat → Addr) (h : Heap) : Prop where
  frm : Frm F α env ns vars oa h
  fx : ∀ a ∈ fpOf env, X a
  ox : ∀ (i : Nat) (l : List D), vars[i]? = some (some (.own l)) → X (oa i)
  fr : ∀ a, h.get? a = none → X a
inductive FlR (F : Fz) (α : List SA) : Fl → Flow → Prop
  | nx : FlR F α .nx .next
  | bk : FlR F α .bk .brk
  | ct : FlR F α .ct .cont
  | rt {v : AV} {u : Value} : VR F α v u → FlR F α (.rt v) (.ret u)
theorem FrS.step {X : Addr → Prop} {F F' : Fz} {α α' : List SA} {env : Env} {ns : List String} {vars : Vars} {oa : Nat → Addr} {h h' : Heap} (f : FrS X F α env ns vars oa h) (x : ExtE F α h F' α' h') : FrS X F' α' env ns vars oa h' :=
  ⟨f.frm.ext x, f.fx, f.ox, fun a e => f.fr a (by
    cases e' : h.get? a with
    | none => rfl
    | some o => obtain ⟨o', h2⟩ := x.stay a o e'; rw [e] at h2; cases h2)⟩
section
variable (Γ : Wd)
noncomputable def PostS (X : Addr → Prop) (F : Fz) (α : List SA) (env : Env) (ns : List String) (s : Shared) (Q : Fl → Vars → List AO → Prop) (f : Flow) (s' : Shared) : Prop :=
  ∃ F' α' st' vars' oa' fl, (∃ tk, s' = { s with heap := s'.heap, toks := tk }) ∧ Ext X F α s.heap F' α' s'.heap ∧ Inv Γ F' α' st' s'.heap ∧ FrS X F' α' env ns vars' oa' s'.heap ∧ FlR F' α' fl f ∧ Q fl vars' st'
noncomputable def SemSs (n : Nat) (env : Env) (ns : List String) (l : List Stmt) (W : Vars → List AO → (Fl → Vars → List AO → Prop) → Prop) : Prop :=
  ∀ (X : Addr → Prop) (A : Around) (s : Shared) (F : Fz) (α : List SA) (st : List AO) (vars : Vars) (oa : Nat → Addr) (Q : Fl → Vars → List AO → Prop), Room A n → Inv Γ F α st s.heap → FrS X F α env ns vars oa s.heap →
    W vars st Q → wpAny (model Γ.prog Γ.w) A (execs l env) (PostS Γ X F α env ns s Q) NE s
noncomputable def SemS (n : Nat) (env : Env) (ns : List String) (l : List Stmt) (W : Vars → List AO → (Fl → Vars → List AO → Prop) → Prop) : Prop :=
  ∀ (X : Addr → Prop) (A : Around) (s : Shared) (F : Fz) (α : List SA) (st : List AO) (vars : Vars) (oa : Nat → Addr) (Q : Fl → Vars → List AO → Prop), Room A n → Inv Γ F α st s.heap → FrS X F α env ns vars oa s.heap →
    W vars st Q → ∀ (rest : List Stmt) (K : Flow → Shared → Prop), (∀ f s', PostS Γ X F α env ns s Q f s' → (match f with | .next => wpAny (model Γ.prog Γ.w) A (execs rest env) K NE s' | f => K f s')) →
    wpAny (model Γ.prog Γ.w) A (execs (l ++ rest) env) K NE s
end
section
variable {Γ : Wd} {n : Nat} {env : Env} {ns : List String}
theorem SemS.one {x : Stmt} {W : Vars → List AO → (Fl → Vars → List AO → Prop) → Prop}
    (h : ∀ (X : Addr → Prop) (A : Around) (s : Shared) (F : Fz) (α : List SA) (st : List AO) (vars : Vars) (oa : Nat → Addr) (Q : Fl → Vars → List AO → Prop), Room A n → Inv Γ F α st s.heap → FrS X F α env ns vars oa s.heap →
      W vars st Q → wpAny (model Γ.prog Γ.w) A (exec x env) (PostS Γ X F α env ns s Q) NE s) : SemS Γ n env ns [x] W := by
  intro X A s F α st vars oa Q R I f w rest K k
  exact wpAny_execs_cons (wpAny_mono (h X A s F α st vars oa Q R I f w) (fun fl s' p => k fl s' p) fun _ _ e => e)
theorem PostS.mk {X : Addr → Prop} {F F' : Fz} {α α' : List SA} {s s' : Shared} {st' : List AO} {vars' : Vars} {oa' : Nat → Addr} {fl : Fl} {f : Flow} {Q : Fl → Vars → List AO → Prop} (hs : ∃ tk, s' = { s with heap := s'.heap, toks := tk }) (x : Ext X F α s.heap F' α' s'.heap) (I : Inv Γ F' α' st' s'.heap) (f' : FrS X F' α' env ns vars' oa' s'.heap) (r : FlR F' α' fl f) (q : Q fl vars' st') :
    PostS Γ X F α env ns s Q f s' := ⟨F', α', st', vars', oa', fl, hs, x, I, f', r, q⟩
theorem PostS.after {X : Addr → Prop} {F F₁ : Fz} {α α₁ : List SA} {s s₁ s' : Shared} {f : Flow} {Q : Fl → Vars → List AO → Prop} (hs : ∃ tk, s₁ = { s with heap := s₁.heap, toks := tk }) (x : Ext X F α s.heap F₁ α₁ s₁.heap) (p : PostS Γ X F₁ α₁ env ns s₁ Q f s') : PostS Γ X F α env ns s Q f s' := by
  obtain ⟨F', α', st', vars', oa', fl, e, y, I, g, r, q⟩ := p
  exact ⟨F', α', st', vars', oa', fl, tr_trans hs e, x.trans y, I, g, r, q⟩
theorem PostS.imp {X : Addr → Prop} {F : Fz} {α : List SA} {s s' : Shared} {f : Flow} {Q Q' : Fl → Vars → List AO → Prop} (p : PostS Γ X F α env ns s Q f s') (h : ∀ fl vs st, Q fl vs st → Q' fl vs st) : PostS Γ X F α env ns s Q' f s' := by
  obtain ⟨F', α', st', vars', oa', fl, e, y, I, g, r, q⟩ := p
  exact ⟨F', α', st', vars', oa', fl, e, y, I, g, r, h _ _ _ q⟩
theorem sameBut_ext {X : Addr → Prop} {F : Fz} {α : List SA} {a : Addr} {h h' : Heap} (hs : Heap.SameBut a h h') (hx : X a) (hl : ∃ o, h'.get? a = some o) : Ext X F α h F α h' := by
  refine ⟨.refl F, ⟨[], by simp, by simp⟩, fun b o e _ hb => ⟨?_, rfl⟩, fun b o e => ?_⟩
  · exact (hs.2 b (fun c => hb (c ▸ hx))).trans e
  · by_cases c : b = a
    · subst c; exact hl
    · exact ⟨o, (hs.2 b c).trans e⟩
theorem store_A (SO : StOK env ns) (EK : EOK env ns) {X : Addr → Prop} {A : Around} {s : Shared} {F : Fz} {α : List SA} {st : List AO} {vars : Vars} {oa : Nat → Addr} {i : Nat} {av : AV} {v : Value} (I : Inv Γ F α st s.heap) (f : FrS X F α env ns vars oa s.heap) (hi : i < vars.length) (hv : VR F α av v) {Q : Unit → Shared → Prop}
    (h : ∀ h' tk, Inv Γ F α st h' → Ext X F α s.heap F α h' → FrS X F α env ns (vars.set i (some av)) oa h' → (∀ b, b ∉ fpOf env → h'.get? b = s.heap.get? b) → Q () { s with heap := h', toks := tk }) :
    wpAny (model Γ.prog Γ.w) A (storeName env (Str.ofString (ns.getD i "")) v) Q NE s := by
  have hin : i < ns.length := by rw [← f.frm.len]; exact hi
  have hx : ns[i]? = some ns[i] := List.getElem?_eq_getElem hin
  rw [List.getD_eq_getElem?_getD, hx]
  refine st_name EK.kind EK.cn f.frm.hn f.frm.cells (SO _ (List.getElem_mem hin)) fun h' tk b hb hs hnew hkeep hns hcl => ?_
  obtain ⟨hF, hα, o, ho⟩ := f.frm.fp b hb
  have hlb : ∃ o, h'.get? b = some o := by
    rcases List.mem_cons.mp hb with e | hb'
    · obtain ⟨m, o, _, _, ho', _⟩ := hns; rw [e]; exact ⟨o, ho'⟩
    · obtain ⟨v, o, ho', _⟩ := hcl b hb'; exact ⟨o, ho'⟩
  have live : ∀ a o, s.heap.get? a = some o → ∃ o', h'.get? a = some o' := fun a o e => by
    by_cases c : a = b
    · subst c; exact hlb
    · exact ⟨o, (hs.2 a c).trans e⟩
  refine h h' tk (I.sameBut hs hF hα) (sameBut_ext hs (f.fx b hb) hlb) ⟨⟨hns, by rw [List.length_set]; exact f.frm.len, fun j y aw hy hw => ?_, fun a ha => ?_, fun j l e => ?_, fun j k l m ej ek hjk => ?_, hcl⟩, f.fx, fun j l e => ?_, fun a e => f.fr a ?_⟩ fun c hc => hs.2 c fun e => hc (e ▸ hb)
  · by_cases hj : j = i
    · subst hj
      rw [List.getElem?_set_self hi] at hw
      have e1 : aw = av := by cases hw; rfl
      subst e1
      have e2 : y = ns[j] := by rw [hx] at hy; cases hy; rfl
      subst e2
      refine ⟨v, hnew, ?_⟩
      cases aw with
      | own l => exact hv.elim
      | d y => exact hv
      | ob k => exact hv
    · rw [List.getElem?_set_ne (fun e => hj e.symm)] at hw
      obtain ⟨u, hu, hr⟩ := f.frm.at_ j y aw hy hw
      have hjn : j < ns.length := (List.getElem?_eq_some_iff.mp hy).1
      have hne : Str.ofString y ≠ Str.ofString ns[i] := fun e => by
        have hy' : y = ns[j] := by rw [List.getElem?_eq_getElem hjn] at hy; cases hy; rfl
        have h1 : (ns.map Str.ofString)[j]'(by rw [List.length_map]; exact hjn) = (ns.map Str.ofString)[i]'(by rw [List.length_map]; exact hin) := by
          rw [List.getElem_map, List.getElem_map, ← hy']; exact e
        exact hj ((List.getElem_inj EK.nd).mp h1)
      refine ⟨u, hkeep _ _ hne hu, ?_⟩
      cases aw with
      | d z => exact hr
      | ob k => exact hr
      | own l =>
        obtain ⟨e1, vs, ⟨k, hk⟩, hq⟩ := hr
        refine ⟨e1, vs, ⟨k, (hs.2 _ fun e => ?_).trans hk⟩, hq⟩
        exact (f.frm.own j l hw).2.2 (e ▸ hb)
  · obtain ⟨h1, h2, o', h3⟩ := f.frm.fp a ha
    obtain ⟨o'', h4⟩ := live a o' h3
    exact ⟨h1, h2, o'', h4⟩
  · by_cases hj : j = i
    · subst hj; rw [List.getElem?_set_self hi] at e; cases e; exact hv.elim
    · rw [List.getElem?_set_ne (fun e => hj e.symm)] at e; exact f.frm.own j l e
  · have nj : j ≠ i := fun c => by subst c; rw [List.getElem?_set_self hi] at ej; cases ej; exact hv.elim
    have nk : k ≠ i := fun c => by subst c; rw [List.getElem?_set_self hi] at ek; cases ek; exact hv.elim
    rw [List.getElem?_set_ne (fun e => nj e.symm)] at ej
    rw [List.getElem?_set_ne (fun e => nk e.symm)] at ek
    exact f.frm.oinj j k l m ej ek hjk
  · by_cases hj : j = i
    · subst hj; rw [List.getElem?_set_self hi] at e; cases e; exact hv.elim
    · rw [List.getElem?_set_ne (fun e => hj e.symm)] at e; exact f.ox j l e
  · cases e' : s.heap.get? a with
    | none => rfl
    | some o' => obtain ⟨o'', h2⟩ := live a o' e'; rw [e] at h2; cases h2
end
end Mn
end
section
namespace Mn
section
variable {Γ : Wd} {n : Nat} {env : Env} {ns : List String}
noncomputable def notC : X → Bool
  | .comp .. => false
  | _ => true
theorem noSwap (P : Pg) (x : X) (t : Option PySem.Expr) (k : Nat) (h : notC x = true) : swapsWith (toE P ns x) t k env = pure false := by
  cases x <;> first | rfl | cases h
theorem assign_names (SO : StOK env ns) (EK : EOK env ns) {X : Addr → Prop} {A : Around} {F : Fz} {α : List SA} {st : List AO} {oa : Nat → Addr} (is : List (Nat × Pos)) : ∀ (l : List D) (us : List Value) (s : Shared) (vars vars' : Vars), is.length = l.length → Inv Γ F α st s.heap → FrS X F α env ns vars oa s.heap → DRs F l us →
    (is.zip l).foldlM (fun (vs : Vars) (q : (Nat × Pos) × D) => if q.1.1 < vs.length then some (vs.set q.1.1 (some (.d q.2))) else none) vars = some vars' → ∀ {Q : Unit → Shared → Prop},
    (∀ h' tk, Inv Γ F α st h' → Ext X F α s.heap F α h' → FrS X F α env ns vars' oa h' → (∀ b o, b ∉ fpOf env → s.heap.get? b = some o → h'.get? b = some o) → Q () { s with heap := h', toks := tk }) →
    wpAny (model Γ.prog Γ.w) A (assignInOrder ((assignEach (is.map fun q => nmE ns q.1 q.2) env).map (·.2)) us) Q NE s := by
  induction is with
  | nil =>
    intro l us s vars vars' hl I f r e Q h
    cases r with
    | nil =>
      cases e
      exact wpAny_pure (h s.heap s.toks I (.refl _ _ _) f fun _ _ _ e => e)
    | cons => cases hl
  | cons q is ih =>
    intro l us s vars vars' hl I f r e Q h
    obtain ⟨i, p⟩ := q
    cases r with
    | nil => cases hl
    | @cons d u l us hd hr =>
      rw [List.zip_cons_cons, List.foldlM_cons] at e
      by_cases hi : i < vars.length
      · rw [if_pos hi] at e
        show wpAny _ A (do holding us (assign (nmE ns i p) env u); assignInOrder ((assignEach (is.map fun q => nmE ns q.1 q.2) env).map (·.2)) us) Q NE s
        refine wpAny_bind (wpAny_holding (assign_Name (store_A SO EK (av := .d d) I f hi hd fun h₁ tk I₁ x₁ f₁ k₁ => ?_)))
        refine ih l us { s with heap := h₁, toks := tk } _ vars' (Nat.succ.inj hl) I₁ f₁ hr e fun h₂ tk₂ I₂ x₂ f₂ k₂ => ?_
        exact h h₂ tk₂ I₂ (x₁.trans x₂) f₂ fun b o hb eb => k₂ b o hb ((k₁ b hb).trans eb)
      · rw [if_neg hi] at e; cases e
theorem each_names (is : List (Nat × Pos)) : (assignEach (is.map fun q => nmE ns q.1 q.2) env).length = is.length ∧ (assignEach (is.map fun q => nmE ns q.1 q.2) env).findIdx? (·.1) = none := by
  induction is with
  | nil => exact ⟨rfl, rfl⟩
  | cons q is ih =>
    refine ⟨congrArg Nat.succ ih.1, ?_⟩
    show ((false, assign (nmE ns q.1 q.2) env) :: assignEach (is.map fun q => nmE ns q.1 q.2) env).findIdx? (·.1) = none
    rw [List.findIdx?_cons, ih.2]; rfl
theorem assign_T (SO : StOK env ns) (EK : EOK env ns) {X : Addr → Prop} {A : Around} (hh : A.handled = none) {s : Shared} {F : Fz} {α : List SA} {st : List AO} {vars vars' : Vars} {oa : Nat → Addr} {t : Tg} {av : AV} {v : Value} (I : Inv Γ F α st s.heap) (f : FrS X F α env ns vars oa s.heap) (hv : VR F α av v) (e : setT t av vars = some vars') {Q : Unit → Shared → Prop}
    (h : ∀ h' tk, Inv Γ F α st h' → Ext X F α s.heap F α h' → FrS X F α env ns vars' oa h' → (∀ b o, b ∉ fpOf env → s.heap.get? b = some o → h'.get? b = some o) → Q () { s with heap := h', toks := tk }) :
    wpAny (model Γ.prog Γ.w) A (assign (toT ns t) env v) Q NE s := by
  cases t with
  | nm i p =>
    replace e : (if i < vars.length then some (vars.set i (some av)) else none) = some vars' := e
    by_cases hi : i < vars.length
    · rw [if_pos hi] at e
      cases e
      exact assign_Name (store_A SO EK I f hi hv fun h₁ tk I₁ x₁ f₁ k₁ => h h₁ tk I₁ x₁ f₁ fun b o hb eb => (k₁ b hb).trans eb)
    · rw [if_neg hi] at e; cases e
  | tp is k p =>
    cases av with
    | d y =>
      cases y with
      | tup l =>
        replace e : (if is.length = l.length then (is.zip l).foldlM (fun (vs : Vars) (q : (Nat × Pos) × D) => if q.1.1 < vs.length then some (vs.set q.1.1 (some (.d q.2))) else none) vars else none) = some vars' := e
        by_cases hl : is.length = l.length
        · rw [if_pos hl] at e
          obtain ⟨a, us, rfl, ht, hr⟩ := DR.tupAt I.agree hv
          have E := each_names (env := env) (ns := ns) is
          refine wpAny_assign_Tuple hh ht (by rw [E.1, hl, hr.length, List.size_toArray]) E.2 fun h₁ k₁ => ?_
          have kk : ∀ b o, s.heap.get? b = some o → h₁.get? b = some o := fun b o eb => k₁ b o (fun c => by subst c; rw [get_size _ (Nat.le_refl _)] at eb; cases eb) eb
          have x₁ : ExtE F α s.heap F α h₁ := ext_keeps F α kk
          refine assign_names SO EK is l us { s with heap := h₁ } vars vars' hl (I.keeps kk) (f.step x₁) hr e fun h₂ tk₂ I₂ x₂ f₂ k₂ => ?_
          exact h h₂ tk₂ I₂ (Ext.trans x₁.ofE x₂) f₂ fun b o hb eb => k₂ b o hb (kk b o eb)
        · rw [if_neg hl] at e; cases e
      | _ => cases e
    | _ => cases e
abbrev wX (Γ : Wd) (n : Nat) := wpX Γ.P (CallOK Γ n) (NewOK Γ n)
abbrev wS (Γ : Wd) (n : Nat) := wpS Γ.P (CallOK Γ n) (NewOK Γ n)
abbrev wSs (Γ : Wd) (n : Nat) := wpSs Γ.P (CallOK Γ n) (NewOK Γ n)
theorem noStores (P : Pg) {x : X} (hx : (match x with | .tup .. => false | _ => true) = true) (is : List PySem.Expr) (k : Nat) (p : Pos) : swappedStores [.Tuple is k p] (toE P ns x) env = pure none := by
  cases x <;> first | rfl | cases hx
noncomputable def tgOK : Tg → X → Bool
  | .tp .., .tup .. => false
  | _, _ => true
theorem st_asg (SO : StOK env ns) (EK : EOK env ns) {t : Tg} {x : X} {p : Pos} (hx : SemX Γ n env ns x) (hc : notC x = true) (ht : tgOK t x = true) : SemS Γ n env ns (toS Γ.P ns (.asg t x p)) (wS Γ n (.asg t x p)) := by
  refine .one fun X A s F α st vars oa Q R I f w => ?_
  have key : ∀ {Q' : Flow → Shared → Prop}, (∀ s', PostS Γ X F α env ns s Q .next s' → Q' .next s') → wpAny (model Γ.prog Γ.w) A (eval (toE Γ.P ns x) env) (fun v s₁ => wpAny (model Γ.prog Γ.w) A (assign (toT ns t) env v) (fun _ => Q' .next) NE s₁) NE s := by
    intro Q' hQ
    refine hx.step R I f.frm w fun F₁ α₁ st₁ av v s₁ hs x₁ I₁ _ r₁ q => ?_
    have f₁ := f.step x₁
    cases e : setT t av vars with
    | none => rw [e] at q; exact q.elim
    | some vars' =>
      rw [e] at q
      refine assign_T SO EK R.1 I₁ f₁ r₁ e fun h' tk I₂ x₂ f₂ _ => hQ _ ?_
      exact .mk (tr_trans hs ⟨tk, rfl⟩) (Ext.trans x₁.ofE x₂) I₂ f₂ .nx q
  cases t with
  | nm i p' =>
    refine wpAny_Assign_Name (x := Str.ofString (ns.getD i "")) (hx.step R I f.frm w fun F₁ α₁ st₁ av v s₁ hs x₁ I₁ _ r₁ q => ?_) (noSwap _ _ _ _ hc)
    replace q : (match (if i < vars.length then some (vars.set i (some av)) else none) with | some vs => Q .nx vs st₁ | none => False) := q
    by_cases hi : i < vars.length
    · rw [if_pos hi] at q
      exact store_A SO EK I₁ (f.step x₁) hi r₁ fun h' tk I₂ x₂ f₂ _ => .mk (tr_trans hs ⟨tk, rfl⟩) (Ext.trans x₁.ofE x₂) I₂ f₂ .nx q
    · rw [if_neg hi] at q; exact q.elim
  | tp is k p' =>
    exact Assign_Tuple (key fun _ h => h) (noSwap (env := env) Γ.P x (some (.Tuple (is.map fun q => nmE ns q.1 q.2) k p')) p.line hc) (noStores _ (by cases x <;> first | rfl | cases ht) _ _ _)
theorem st_asgA (W : WdOK Γ) {a x : X} {fd : Nat} {pt p : Pos} (ha : SemX Γ n env ns a) (hx : SemX Γ n env ns x) (hc : notC x = true) (hf : fd < Γ.P.flds.length) : SemS Γ n env ns (toS Γ.P ns (.asgA a fd x pt p)) (wS Γ n (.asgA a fd x pt p)) := by
  refine .one fun X A s F α st vars oa Q R I f w => ?_
  refine plainObj_wpAny_Assign_Attribute (hx.step R I f.frm w fun F₁ α₁ st₁ av v s₁ hs x₁ I₁ f₁ r₁ q => ha.step R I₁ f₁ q fun F₂ α₂ st₂ bv u s₂ hs₂ x₂ I₂ f₂ r₂ q => ?_) (noSwap _ _ _ _ hc)
  obtain ⟨k, c, fs, rfl, ho, hz, q⟩ := q
  obtain ⟨pp, hp, rfl⟩ := r₂
  refine setattr_A W I₂ hf ho hp (x₂.vr r₁) hz fun h' tk I₃ x₃ => ?_
  have g : FrS X F₂ α₂ env ns vars oa h' := ((f.step x₁).step x₂).step x₃
  exact .mk (tr_trans hs (tr_trans hs₂ ⟨tk, rfl⟩)) (Ext.ofE (x₁.trans (x₂.trans x₃))) I₃ g .nx q
theorem st_asgI {a k x : X} {pt p : Pos} (hc : notC x = true) (ha : SemX Γ n env ns a) (hk : SemX Γ n env ns k) (hx : SemX Γ n env ns x) : SemS Γ n env ns (toS Γ.P ns (.asgI a k x pt p)) (wS Γ n (.asgI a k x pt p)) := by
  refine .one fun X A s F α st vars oa Q R I f w => ?_
  refine wpAny_Assign_Subscript (hx.step R I f.frm w fun F₁ α₁ st₁ av v s₁ hs x₁ I₁ f₁ r₁ q => ha.step R I₁ f₁ q fun F₂ α₂ st₂ bv u s₂ hs₂ x₂ I₂ f₂ r₂ q => hk.step R I₂ f₂ q fun F₃ α₃ st₃ kv w s₃ hs₃ x₃ I₃ f₃ r₃ q => ?_) (noSwap _ _ _ _ hc)
  replace r₁ := x₃.vr (x₂.vr r₁)
  replace r₂ := x₃.vr r₂
  obtain ⟨m, kd, vd, ao, ao', rfl, rfl, rfl, ho, e, q⟩ := q
  obtain ⟨pp, hp, rfl⟩ := r₂
  refine setItem_A I₃ (by have := room_u R; omega) ho hp e r₃ r₁ fun h' tk I₄ x₄ => ?_
  have g : FrS X F₃ α₃ env ns vars oa h' := (((f.step x₁).step x₂).step x₃).step x₄
  exact .mk (tr_trans hs (tr_trans hs₂ (tr_trans hs₃ ⟨tk, rfl⟩))) (Ext.ofE (x₁.trans (x₂.trans (x₃.trans x₄)))) I₄ g .nx q
theorem st_delI {a k : X} {pt p : Pos} (ha : SemX Γ n env ns a) (hk : SemX Γ n env ns k) : SemS Γ n env ns (toS Γ.P ns (.delI a k pt p)) (wS Γ n (.delI a k pt p)) := by
  refine .one fun X A s F α st vars oa Q R I f w => ?_
  show wpAny _ A (exec (.Delete [PySem.Expr.Subscript (toE Γ.P ns a) (toE Γ.P ns k) pt] p) env) _ _ s
  rw [arm_exec_Delete]
  refine wpAny_bind (wpAny_standAt ?_)
  have e : deleteEach [PySem.Expr.Subscript (toE Γ.P ns a) (toE Γ.P ns k) pt] env = (do delete (.Subscript (toE Γ.P ns a) (toE Γ.P ns k) pt) env; deleteEach [] env) := rfl
  rw [e]
  refine wpAny_bind (wpAny_bind (delete_Subscript (ha.step R I f.frm w fun F₂ α₂ st₂ bv u s₂ hs₂ x₂ I₂ f₂ r₂ q => hk.step R I₂ f₂ q fun F₃ α₃ st₃ kv w s₃ hs₃ x₃ I₃ f₃ r₃ q => ?_)))
  replace r₂ := x₃.vr r₂
  obtain ⟨m, kd, es, rfl, rfl, ho, h1, h2, q⟩ := q
  obtain ⟨pp, hp, rfl⟩ := r₂
  obtain ⟨t, rfl⟩ : ∃ t, w = .int kd t := by cases r₃; exact ⟨_, rfl⟩
  refine delItem_A I₃ ho hp h1 h2 fun h' tk I₄ x₄ => ?_
  have g : FrS X F₃ α₃ env ns vars oa h' := ((f.step x₂).step x₃).step x₄
  exact wpAny_pure (wpAny_pure (.mk (tr_trans hs₂ (tr_trans hs₃ ⟨tk, rfl⟩)) (Ext.ofE (x₂.trans (x₃.trans x₄))) I₄ g .nx q))
theorem st_exp (EK : EOK env ns) {x : X} {p : Pos} (hc : notC x = true) (hx : SemX Γ n env ns x) : SemS Γ n env ns (toS Γ.P ns (.exp x p)) (wS Γ n (.exp x p)) := by
  refine .one fun X A s F α st vars oa Q R I f w => ?_
  refine wpAny_Expr_any (hx.step R I f.frm w fun F₁ α₁ st₁ av v s₁ hs x₁ I₁ f₁ r₁ q => ?_) EK.inter (noSwap _ _ _ _ hc)
  exact .mk hs x₁.ofE I₁ (f.step x₁) .nx q
theorem st_ret {x : X} {p : Pos} (hx : SemX Γ n env ns x) : SemS Γ n env ns (toS Γ.P ns (.ret x p)) (wS Γ n (.ret x p)) := by
  refine .one fun X A s F α st vars oa Q R I f w => ?_
  refine wpAny_Return_some (hx.step R I f.frm w fun F₁ α₁ st₁ av v s₁ hs x₁ I₁ f₁ r₁ q => ?_)
  exact .mk hs x₁.ofE I₁ (f.step x₁) (.rt r₁) q
theorem st_pas {p : Pos} : SemS Γ n env ns (toS Γ.P ns (.pas p)) (wS Γ n (.pas p)) := by
  refine .one fun X A s F α st vars oa Q R I f w => ?_
  exact wpAny_Pass (.mk ⟨_, rfl⟩ (.refl _ _ _) I f .nx w)
theorem st_brk {p : Pos} : SemS Γ n env ns (toS Γ.P ns (.brk p)) (wS Γ n (.brk p)) := by
  refine .one fun X A s F α st vars oa Q R I f w => ?_
  exact wpAny_Break (.mk ⟨_, rfl⟩ (.refl _ _ _) I f .bk w)
theorem st_con {p : Pos} : SemS Γ n env ns (toS Γ.P ns (.con p)) (wS Γ n (.con p)) := by
  refine .one fun X A s F α st vars oa Q R I f w => ?_
  exact wpAny_Continue (.mk ⟨_, rfl⟩ (.refl _ _ _) I f .ct w)
theorem st_iff {t : X} {a b : Ss} {p : Pos} (ht : SemX Γ n env ns t) (ha : SemSs Γ n env ns (toSs Γ.P ns a) (wSs Γ n a)) (hb : SemSs Γ n env ns (toSs Γ.P ns b) (wSs Γ n b)) : SemS Γ n env ns (toS Γ.P ns (.iff t a b p)) (wS Γ n (.iff t a b p)) := by
  refine .one fun X A s F α st vars oa Q R I f w => ?_
  refine wpAny_If (ht.stepT R I f.frm w fun F₁ α₁ st₁ c s₁ hs x₁ I₁ f₁ q => ?_)
  cases c with
  | true => exact wpAny_mono (ha X A s₁ F₁ α₁ st₁ vars oa Q R I₁ (f.step x₁) q) (fun _ _ p => p.after hs x₁.ofE) fun _ _ e => e
  | false => exact wpAny_mono (hb X A s₁ F₁ α₁ st₁ vars oa Q R I₁ (f.step x₁) q) (fun _ _ p => p.after hs x₁.ofE) fun _ _ e => e
theorem ss_nil : SemSs Γ n env ns (toSs Γ.P ns .nil) (wSs Γ n .nil) := by
  intro X A s F α st vars oa Q R I f w
  exact wpAny_execs_nil (.mk ⟨_, rfl⟩ (.refl _ _ _) I f .nx w)
theorem ss_cons {x : S} {r : Ss} (hx : SemS Γ n env ns (toS Γ.P ns x) (wS Γ n x)) (hr : SemSs Γ n env ns (toSs Γ.P ns r) (wSs Γ n r)) : SemSs Γ n env ns (toSs Γ.P ns (.cons x r)) (wSs Γ n (.cons x r)) := by
  intro X A s F α st vars oa Q R I f w
  refine hx X A s F α st vars oa _ R I f w (toSs Γ.P ns r) _ fun fl s' p => ?_
  obtain ⟨F', α', st', vars', oa', g, e, y, I', f', rr, q⟩ := p
  cases rr with
  | nx => exact wpAny_mono (hr X A s' F' α' st' vars' oa' Q R I' f' q) (fun _ _ p => p.after e y) fun _ _ e => e
  | bk => exact .mk e y I' f' .bk q
  | ct => exact .mk e y I' f' .ct q
  | rt r => exact .mk e y I' f' (.rt r) q
end
end Mn
end
section
namespace Mn
section
variable {Γ : Wd} {n : Nat} {env : Env} {ns : List String}
theorem st_whl {t : X} {b : Ss} {p : Pos} (ht : SemX Γ n env ns t) (hb : SemSs Γ n env ns (toSs Γ.P ns b) (wSs Γ n b)) : SemS Γ n env ns (toS Γ.P ns (.whl t b p)) (wS Γ n (.whl t b p)) := by
  refine .one fun X A s F α st vars oa Q R I f w => ?_
  obtain ⟨k, w⟩ := w
  refine wpAny_While ?_
  refine codeAny_whileLoop (R := fun r s' => match r with | .ok f => PostS Γ X F α env ns s Q f s' | .error e => cameBackBy (model Γ.prog Γ.w) A env NE e s')
    (fun k s' => ∃ F' α' st' vars' oa', (∃ tk, s' = { s with heap := s'.heap, toks := tk }) ∧ Ext X F α s.heap F' α' s'.heap ∧ Inv Γ F' α' st' s'.heap ∧ FrS X F' α' env ns vars' oa' s'.heap ∧
      loopW (fun vs st Q => wpX Γ.P (CallOK Γ n) (NewOK Γ n) t true vs st Q) (fun vs st Q => wpSs Γ.P (CallOK Γ n) (NewOK Γ n) b vs st Q) k vars' st' Q) ?_ k ⟨F, α, st, vars, oa, ⟨_, rfl⟩, .refl _ _ _, I, f, w⟩
  rintro k s₁ ⟨F₁, α₁, st₁, vars₁, oa₁, hs₁, x₁, I₁, f₁, w₁⟩
  cases k with
  | zero => exact w₁.elim
  | succ k =>
    refine wpAny_mono (ht.stepT R I₁ f₁.frm w₁ (K := fun c s₂ => if c = true then wpAny (model Γ.prog Γ.w) A (execs (toSs Γ.P ns b) env) (fun f s₃ => match f with
            | .next | .cont => ∃ m, m < k + 1 ∧ (∃ F' α' st' vars' oa', (∃ tk, s₃ = { s with heap := s₃.heap, toks := tk }) ∧ Ext X F α s.heap F' α' s₃.heap ∧ Inv Γ F' α' st' s₃.heap ∧ FrS X F' α' env ns vars' oa' s₃.heap ∧
      loopW (fun vs st Q => wpX Γ.P (CallOK Γ n) (NewOK Γ n) t true vs st Q) (fun vs st Q => wpSs Γ.P (CallOK Γ n) (NewOK Γ n) b vs st Q) m vars' st' Q)
            | .brk => PostS Γ X F α env ns s Q .next s₃
            | .ret v => PostS Γ X F α env ns s Q (.ret v) s₃) NE s₂ else PostS Γ X F α env ns s Q .next s₂) fun F₂ α₂ st₂ c s₂ hs₂ x₂ I₂ _ q => ?_) (fun c s₂ h => ?_) fun _ _ e => e.elim
    · have f₂ := f₁.step x₂
      have hs := tr_trans hs₁ hs₂
      have x := x₁.trans x₂.ofE
      cases c with
      | false => exact .mk hs x I₂ f₂ .nx q
      | true =>
        rw [if_pos rfl]
        refine wpAny_mono (hb X A s₂ F₂ α₂ st₂ vars₁ oa₁ _ R I₂ f₂ q) (fun fl s₃ p => ?_) fun _ _ e => e
        obtain ⟨F₃, α₃, st₃, vars₃, oa₃, g, hs₃, x₃, I₃, f₃, r, q⟩ := p
        cases r with
        | nx => exact ⟨k, Nat.lt_succ_self k, F₃, α₃, st₃, vars₃, oa₃, tr_trans hs hs₃, x.trans x₃, I₃, f₃, q⟩
        | ct => exact ⟨k, Nat.lt_succ_self k, F₃, α₃, st₃, vars₃, oa₃, tr_trans hs hs₃, x.trans x₃, I₃, f₃, q⟩
        | bk => exact .mk (tr_trans hs hs₃) (x.trans x₃) I₃ f₃ .nx q
        | rt r => exact .mk (tr_trans hs hs₃) (x.trans x₃) I₃ f₃ (.rt r) q
    · cases c with
      | true =>
        rw [if_pos rfl] at h ⊢
        exact wpAny_mono h (fun fl s₃ p => by cases fl <;> exact p) fun _ _ e => e.elim
      | false =>
        rw [if_neg Bool.false_ne_true] at h ⊢
        exact wpAny_execs_nil h
theorem st_ownN (SO : StOK env ns) (EK : EOK env ns) {i : Nat} {pt pl p : Pos} : SemS Γ n env ns (toS Γ.P ns (.ownN i pt pl p)) (wS Γ n (.ownN i pt pl p)) := by
  refine .one fun X A s F α st vars oa Q R I f w => ?_
  obtain ⟨hi, q⟩ := w
  refine wpAny_Assign_Name (wpAny_List (Calls.spliced_nil ⟨Nat.zero_le _, ?_⟩)) (by rfl)
  have hn := none_new (h := s.heap) rfl
  have g : (s.heap.push { cls := .type "list", data := .seq ([] : List Value).toArray }).get? s.heap.objs.size = some { cls := .type "list", data := .seq ([] : List Value).toArray } := Heap.get?_push_size s.heap rfl
  have kk : ∀ b o, s.heap.get? b = some o → (s.heap.push { cls := .type "list", data := .seq ([] : List Value).toArray }).get? b = some o := fun b o e => Heap.get?_push_of_some _ e
  have x₁ : ExtE F α s.heap F α (s.heap.push { cls := .type "list", data := .seq ([] : List Value).toArray }) := ext_keeps F α kk
  have f₁ := f.step x₁
  have I₁ := I.keeps kk
  have hin : i < ns.length := by rw [← f.frm.len]; exact hi
  have hx : ns[i]? = some ns[i] := List.getElem?_eq_getElem hin
  show wpAny _ A (storeName env (Str.ofString (ns.getD i "")) (.ref s.heap.objs.size)) _ _ { s with heap := s.heap.push { cls := .type "list", data := .seq ([] : List Value).toArray } }
  rw [List.getD_eq_getElem?_getD, hx]
  refine st_name EK.kind EK.cn f₁.frm.hn f₁.frm.cells (SO _ (List.getElem_mem hin)) fun h' tk b hb hs hnew hkeep hns hcl => ?_
  obtain ⟨hF, hα, o, ho⟩ := f₁.frm.fp b hb
  have hbs : ∀ a ∈ fpOf env, a ≠ s.heap.objs.size := fun a ha c => by
    obtain ⟨_, _, o, e⟩ := f.frm.fp a ha
    rw [c, hn] at e; cases e
  have hlb : ∃ o, h'.get? b = some o := by
    rcases List.mem_cons.mp hb with e | hb'
    · obtain ⟨m, o, _, _, ho', _⟩ := hns; rw [e]; exact ⟨o, ho'⟩
    · obtain ⟨v, o, ho', _⟩ := hcl b hb'; exact ⟨o, ho'⟩
  have live : ∀ a o, (s.heap.push { cls := .type "list", data := .seq ([] : List Value).toArray }).get? a = some o → ∃ o', h'.get? a = some o' := fun a o e => by
    by_cases c : a = b
    · subst c; exact hlb
    · exact ⟨o, (hs.2 a c).trans e⟩
  have gl : h'.get? s.heap.objs.size = some { cls := .type "list", data := .seq ([] : List Value).toArray } := (hs.2 _ (fun c => hbs b hb c.symm)).trans g
  have own_ne : ∀ (j : Nat) (l : List D), vars[j]? = some (some (.own l)) → oa j ≠ s.heap.objs.size := fun j l e c => by
    obtain ⟨_, _, _, vs, ⟨k, hk⟩, _⟩ := own_lt f.frm e
    rw [c, hn] at hk; cases hk
  refine .mk ⟨tk, rfl⟩ (Ext.trans x₁.ofE (sameBut_ext hs (f.fx b hb) hlb)) (I₁.sameBut hs hF hα) (oa' := fun j => if j = i then s.heap.objs.size else oa j) (vars' := vars.set i (some (.own []))) ?_ .nx q
  refine ⟨⟨hns, by rw [List.length_set]; exact f.frm.len, fun j y aw hy hw => ?_, fun a ha => ?_, fun j l e => ?_, fun j k l m ej ek hjk => ?_, hcl⟩, f.fx, fun j l e => ?_, fun a e => f₁.fr a ?_⟩
  · by_cases hj : j = i
    · subst hj
      rw [List.getElem?_set_self hi] at hw
      cases hw
      have e2 : y = ns[j] := by rw [hx] at hy; cases hy; rfl
      subst e2
      refine ⟨_, hnew, ?_, [], ⟨0, ?_⟩, .nil⟩
      · rw [if_pos rfl]
      · rw [if_pos rfl]; exact gl
    · rw [List.getElem?_set_ne (fun e => hj e.symm)] at hw
      obtain ⟨u, hu, hr⟩ := f₁.frm.at_ j y aw hy hw
      have hjn : j < ns.length := (List.getElem?_eq_some_iff.mp hy).1
      have hne : Str.ofString y ≠ Str.ofString ns[i] := fun e => by
        have hy' : y = ns[j] := by rw [List.getElem?_eq_getElem hjn] at hy; cases hy; rfl
        have h1 : (ns.map Str.ofString)[j]'(by rw [List.length_map]; exact hjn) = (ns.map Str.ofString)[i]'(by rw [List.length_map]; exact hin) := by
          rw [List.getElem_map, List.getElem_map, ← hy']; exact e
        exact hj ((List.getElem_inj EK.nd).mp h1)
      refine ⟨u, hkeep _ _ hne hu, ?_⟩
      cases aw with
      | d z => exact hr
      | ob k => exact hr
      | own l =>
        obtain ⟨e1, vs, ⟨k, hk⟩, hq⟩ := hr
        show u = .ref (if j = i then _ else oa j) ∧ _
        rw [if_neg hj]
        refine ⟨e1, vs, ⟨k, (hs.2 _ fun e => ?_).trans hk⟩, hq⟩
        exact (f.frm.own j l hw).2.2 (e ▸ hb)
  · obtain ⟨h1, h2, o', h3⟩ := f₁.frm.fp a ha
    obtain ⟨o'', h4⟩ := live a o' h3
    exact ⟨h1, h2, o'', h4⟩
  · by_cases hj : j = i
    · subst hj
      rw [if_pos rfl]
      exact ⟨I.fnone hn, I.anone hn, fun c => hbs _ c rfl⟩
    · rw [List.getElem?_set_ne (fun e => hj e.symm)] at e
      rw [if_neg hj]
      exact f.frm.own j l e
  · by_cases nj : j = i
    · by_cases nk : k = i
      · exact absurd (nj.trans nk.symm) hjk
      · rw [if_pos nj, if_neg nk]
        rw [List.getElem?_set_ne (fun e => nk e.symm)] at ek
        exact (own_ne k m ek).symm
    · by_cases nk : k = i
      · rw [if_neg nj, if_pos nk]
        rw [List.getElem?_set_ne (fun e => nj e.symm)] at ej
        exact own_ne j l ej
      · rw [if_neg nj, if_neg nk]
        rw [List.getElem?_set_ne (fun e => nj e.symm)] at ej
        rw [List.getElem?_set_ne (fun e => nk e.symm)] at ek
        exact f.frm.oinj j k l m ej ek hjk
  · by_cases hj : j = i
    · subst hj; rw [if_pos rfl]; exact f.fr _ hn
    · rw [List.getElem?_set_ne (fun e => hj e.symm)] at e
      rw [if_neg hj]; exact f.ox j l e
  · cases e' : (s.heap.push { cls := .type "list", data := .seq ([] : List Value).toArray }).get? a with
    | none => rfl
    | some o' => obtain ⟨o'', h2⟩ := live a o' e'; rw [e] at h2; cases h2
theorem own_set {X : Addr → Prop} {F F' : Fz} {α : List SA} {vars : Vars} {oa : Nat → Addr} {h h' : Heap} {i : Nat} {l : List D} {av : AV} (f : FrS X F α env ns vars oa h) (e : vars[i]? = some (some (.own l))) (S : F.Sub F') (hF : ∀ a, a ≠ oa i → F' a = F a) (hF' : (∃ m, av = .own m) → F' (oa i) = none)
    (hs : Heap.SameBut (oa i) h h') (hl : ∃ o, h'.get? (oa i) = some o) (hv : VRo F' α h' (oa i) av (.ref (oa i))) : FrS X F' α env ns (vars.set i (some av)) oa h' := by
  have hi : i < vars.length := (List.getElem?_eq_some_iff.mp e).1
  obtain ⟨o1, o2, o3⟩ := f.frm.own i l e
  have kp : ∀ a ∈ fpOf env, ∀ o, h.get? a = some o → h'.get? a = some o := fun a ha o eo => (hs.2 a (fun c => o3 (c ▸ ha))).trans eo
  obtain ⟨x, hx, hn, _⟩ := own_lt f.frm e
  have live : ∀ a o, h.get? a = some o → ∃ o', h'.get? a = some o' := fun a o ea => by
    by_cases c : a = oa i
    · subst c; exact hl
    · exact ⟨o, (hs.2 a c).trans ea⟩
  refine ⟨⟨?_, by rw [List.length_set]; exact f.frm.len, fun j y aw hy hw => ?_, fun a ha => ?_, fun j m ej => ?_, fun j k m m' ej ek hjk => ?_, fun c hc => ?_⟩, f.fx, fun j m ej => ?_, fun a ea => f.fr a ?_⟩
  · obtain ⟨m, o, es, ep, ho, r⟩ := f.frm.hn
    exact ⟨m, o, es, ep, kp _ (fp_locals env) _ ho, r⟩
  · by_cases hj : j = i
    · subst hj
      rw [List.getElem?_set_self hi] at hw
      cases hw
      have : x = y := by rw [hx] at hy; cases hy; rfl
      subst this
      exact ⟨_, hn.at kp, hv⟩
    · rw [List.getElem?_set_ne (fun e => hj e.symm)] at hw
      obtain ⟨u, hu, hr⟩ := f.frm.at_ j y aw hy hw
      refine ⟨u, hu.at kp, ?_⟩
      cases aw with
      | d z => exact DR.mono S hr
      | ob k => exact hr
      | own m =>
        obtain ⟨e1, vs, ⟨k, hk⟩, hq⟩ := hr
        exact ⟨e1, vs, ⟨k, (hs.2 _ (f.frm.oinj j i m l hw e hj)).trans hk⟩, hq.mono S⟩
  · obtain ⟨h1, h2, o', h3⟩ := f.frm.fp a ha
    exact ⟨(hF a fun c => o3 (c ▸ ha)).trans h1, h2, o', kp a ha o' h3⟩
  · by_cases hj : j = i
    · subst hj
      rw [List.getElem?_set_self hi] at ej
      cases ej
      exact ⟨hF' ⟨m, rfl⟩, o2, o3⟩
    · rw [List.getElem?_set_ne (fun e => hj e.symm)] at ej
      obtain ⟨p1, p2, p3⟩ := f.frm.own j m ej
      exact ⟨(hF _ (f.frm.oinj j i m l ej e hj)).trans p1, p2, p3⟩
  · have key : ∀ (j : Nat) (m : List D), (vars.set i (some av))[j]? = some (some (.own m)) → ∃ m, vars[j]? = some (some (.own m)) := fun j m ej => by
      by_cases hj : j = i
      · subst hj; exact ⟨l, e⟩
      · rw [List.getElem?_set_ne (fun e => hj e.symm)] at ej; exact ⟨m, ej⟩
    obtain ⟨m1, e1⟩ := key j m ej
    obtain ⟨m2, e2⟩ := key k m' ek
    exact f.frm.oinj j k m1 m2 e1 e2 hjk
  · obtain ⟨v, o, ho, hd⟩ := f.frm.cells c hc
    exact ⟨v, o, kp c (List.mem_cons_of_mem _ hc) _ ho, hd⟩
  · by_cases hj : j = i
    · subst hj; exact f.ox j l e
    · rw [List.getElem?_set_ne (fun e => hj e.symm)] at ej; exact f.ox j m ej
  · cases e' : h.get? a with
    | none => rfl
    | some o' => obtain ⟨o'', h2⟩ := live a o' e'; rw [ea] at h2; cases h2
theorem getD_own {vars : Vars} {i : Nat} {l : List D} (e : vars.getD i none = some (.own l)) : vars[i]? = some (some (.own l)) := by
  rw [List.getD_eq_getElem?_getD] at e
  cases h : vars[i]? with
  | none => rw [h] at e; cases e
  | some o => rw [h] at e; simpa using e
theorem st_frz {i : Nat} : SemS Γ n env ns (toS Γ.P ns (.frz i)) (wS Γ n (.frz i)) := by
  intro X A s F α st vars oa Q R I f w rest K k
  show wpAny _ A (execs rest env) _ _ s
  replace w : (match vars.getD i none with | some (.own l) => Q .nx (vars.set i (some (.d (.lst l)))) st | _ => False) := w
  cases e : vars.getD i none with
  | none => rw [e] at w; exact w.elim
  | some av =>
    cases av with
    | own l =>
      rw [e] at w
      have e' := getD_own e
      obtain ⟨x, hx, hn, vs, ⟨c, hl⟩, hr⟩ := own_lt f.frm e'
      obtain ⟨o1, o2, o3⟩ := f.frm.own i l e'
      obtain ⟨J, Y⟩ := I.freezeOld hl o1 o2
      have S : F.Sub (F.put (oa i) { cls := .type "list", data := .seq vs.toArray c }) := Fz.sub_put _ o1
      have g : FrS X (F.put (oa i) { cls := .type "list", data := .seq vs.toArray c }) α env ns (vars.set i (some (.d (.lst l)))) oa s.heap :=
        own_set f e' S (fun a ha => Fz.put_ne _ _ ha) (fun ⟨m, h⟩ => nomatch h) ⟨rfl, fun _ _ => rfl⟩ ⟨_, hl⟩ (DR.lst (Fz.put_self ..) rfl rfl (hr.mono S))
      exact k .next s (.mk ⟨_, rfl⟩ (Y.weak fun a o _ ha => ha ▸ f.ox i l e') J g .nx w)
    | _ => rw [e] at w; exact w.elim
theorem st_ownA {i : Nat} {x : X} {pn ap pc p : Pos} (EK : EOK env ns) (hx : SemX Γ n env ns x) (hl : (ap.endLine == pc.line) = true) : SemS Γ n env ns (toS Γ.P ns (.ownA i x pn ap pc p)) (wS Γ n (.ownA i x pn ap pc p)) := by
  refine .one fun X A s F α st vars oa Q R I f w => ?_
  replace w : (match vars.getD i none with | some (.own l) => wpX Γ.P (CallOK Γ n) (NewOK Γ n) x false vars st fun v st => (match v with | .d x => l.length ≤ big ∧ Q .nx (vars.set i (some (.own (l ++ [x])))) st | _ => False) | _ => False) := w
  cases e : vars.getD i none with
  | none => rw [e] at w; exact w.elim
  | some av =>
    cases av with
    | own l =>
      rw [e] at w
      have e' := getD_own e
      refine wpAny_Expr_any ?_ EK.inter (by rfl)
      have hcall := @methCall env ns (model Γ.prog Γ.w) A NE s Γ.P (.loc i pn) (Str.ofString "append") (.cons x .nil) ap pc (fun _ => PostS Γ X F α env ns s Q .next) rfl hl (by show 1 < 30; decide) ?_
      · exact hcall
      refine ld_var EK f.frm e fun v hv => ?_
      obtain ⟨rfl, vs, ⟨c, hg⟩, hr⟩ := hv
      refine getMethod_builtin (T := "list") ⟨_, hg, rfl⟩ PySem.F.plainAttrs_list PySem.F.slot_list_append PySem.F.type_list_append (fun a ea => by cases ea; exact ⟨_, hg, rfl⟩) ?_
      refine Calls.callWith_builtin (plain_xs (ns := ns) Γ.P _ (.cons x .nil)) (evalArgs_xs (ns := ns) (P := Γ.P) (xs := .cons x .nil) ?_)
      show wpAny _ A (spliced (backTo _ (starEach (toE Γ.P ns x :: toEs Γ.P ns .nil) env))) _ _ _
      rw [starE]
      refine Calls.spliced_cons (hx.step R I f.frm w fun F₁ α₁ st₁ av v s₁ hs x₁ I₁ f₁ r₁ q => ?_)
      refine Calls.spliced_nil ?_
      cases av with
      | d y =>
        obtain ⟨hz, q⟩ := q
        have g₁ := f.step x₁
        obtain ⟨_, _, _, us, ⟨c', hg'⟩, hr'⟩ := own_lt g₁.frm e'
        obtain ⟨o1, o2, o3⟩ := g₁.frm.own i l e'
        refine call_meets PySem.F.slot_list_append ⟨_, hg', rfl⟩ PySem.F.entry_list_append (PySem.F.args_list_append_2 _ _) (list_append (oa i) us.toArray c' v (by rw [List.size_toArray, ← hr'.length]; exact hz)) ⟨hg', ?_⟩
        have eo : ∃ n', (Obj.mapSeq (fun xs => xs.push v) { cls := .type "list", data := .seq us.toArray c' }) = { cls := .type "list", data := .seq (us ++ [v]).toArray n' } := by
          rw [show (us ++ [v]).toArray = us.toArray.push v from (List.push_toArray ..).symm]
          exact ⟨_, rfl⟩
        obtain ⟨c₂, eo⟩ := eo
        have gg : (s₁.heap.update (oa i) (Obj.mapSeq fun xs => xs.push v)).get? (oa i) = some { cls := .type "list", data := .seq (us ++ [v]).toArray c₂ } := by
          rw [Heap.get?_update_self _ hg' (by rw [eo]; rfl), eo]
        have hs' := Heap.SameBut.update s₁.heap (oa i) (Obj.mapSeq fun xs => xs.push v)
        refine .mk (tr_trans hs ⟨_, rfl⟩) (Ext.trans x₁.ofE (sameBut_ext hs' (f.ox i l e') ⟨_, gg⟩)) (I₁.sameBut hs' o1 o2) (oa' := oa) (vars' := vars.set i (some (.own (l ++ [y])))) ?_ .nx q
        exact own_set g₁ e' (.refl _) (fun _ _ => rfl) (fun _ => o1) hs' ⟨_, gg⟩ ⟨rfl, us ++ [v], ⟨c₂, gg⟩, hr'.append (.cons r₁ .nil)⟩
      | _ => exact q.elim
    | _ => rw [e] at w; exact w.elim
end
end Mn
end
section
namespace Mn
section
variable {Γ : Wd} {n : Nat} {env : Env} {ns : List String}
theorem Ext.tailBut {X : Addr → Prop} {F F' : Fz} {α α' : List SA} {h h' h'' : Heap} {a : Addr} (x : Ext X F α h F' α' h') (ha : h.get? a = none) (k : ∀ b o, b ∉ [a] → h'.get? b = some o → h''.get? b = some o) : Ext X F α h F' α' h'' := by
  have ne : ∀ b o, h.get? b = some o → b ∉ [a] := fun b o e c => by rw [List.mem_singleton] at c; subst c; rw [ha] at e; cases e
  exact ⟨x.sub, x.pre, fun b o e hm hb => let ⟨e1, e2⟩ := x.keep b o e hm hb; ⟨k b o (ne b o e) e1, e2⟩, fun b o e => let ⟨o', e'⟩ := x.stay b o e; ⟨o', k b o' (ne b o e) e'⟩⟩
theorem Frm.but {F : Fz} {α : List SA} {vars : Vars} {oa : Nat → Addr} {h h' : Heap} {a : Addr} (f : Frm F α env ns vars oa h) (k : ∀ b o, b ∉ [a] → h.get? b = some o → h'.get? b = some o) (h1 : a ∉ fpOf env) (h2 : ∀ (i : Nat) (l : List D), vars[i]? = some (some (.own l)) → a ≠ oa i) : Frm F α env ns vars oa h' := by
  have kp : ∀ b ∈ fpOf env, ∀ o, h.get? b = some o → h'.get? b = some o := fun b hb o e => k b o (fun c => h1 (List.mem_singleton.mp c ▸ hb)) e
  refine ⟨?_, f.len, fun i y av hy hv => ?_, fun b hb => ?_, f.own, f.oinj, fun c hc => ?_⟩
  · obtain ⟨m, o, es, ep, ho, r⟩ := f.hn
    exact ⟨m, o, es, ep, kp _ (fp_locals env) _ ho, r⟩
  · obtain ⟨v, hn, hr⟩ := f.at_ i y av hy hv
    refine ⟨v, hn.at kp, ?_⟩
    cases av with
    | d y => exact hr
    | ob n => exact hr
    | own l =>
      obtain ⟨e, vs, ⟨o, ho⟩, q⟩ := hr
      exact ⟨e, vs, ⟨o, k _ _ (fun c => h2 i l hv (List.mem_singleton.mp c).symm) ho⟩, q⟩
  · obtain ⟨p1, p2, o, p3⟩ := f.fp b hb
    exact ⟨p1, p2, o, kp b hb o p3⟩
  · obtain ⟨v, o, ho, hd⟩ := f.cells c hc
    exact ⟨v, o, kp c (List.mem_cons_of_mem _ hc) _ ho, hd⟩
theorem for_loop (SO : StOK env ns) (EK : EOK env ns) {t : Tg} {b : Ss} (hb : SemSs Γ n env ns (toSs Γ.P ns b) (wSs Γ n b)) {X : Addr → Prop} {A : Around} {s₀ s : Shared} {F₀ F : Fz} {α₀ α : List SA} {st : List AO} {vars : Vars} {oa : Nat → Addr} {Q : Fl → Vars → List AO → Prop} (R : Room A n) (I : Inv Γ F α st s.heap)
    {it : Addr} {l : List D} {fp : List Addr} {Pv : Nat → Value → Prop} {St : Nat → Heap → Prop} (W : ItW Γ A F it l fp Pv St) (hit : F it = none ∧ it ∉ sAddrs α) (hX : X it) (h0 : St 0 s.heap)
    (hs₀ : ∃ tk, s = { s₀ with heap := s.heap, toks := tk }) (x₀ : Ext X F₀ α₀ s₀.heap F α s.heap) (hit0 : s₀.heap.get? it = none)
    (f : FrS (fun a => X a ∧ a ≠ it) F α env ns vars oa s.heap) (w : loopF t (fun vs st Q => wpSs Γ.P (CallOK Γ n) (NewOK Γ n) b vs st Q) l vars st Q) :
    codeAny (model Γ.prog Γ.w) A (.forLoop (toT ns t) (.ref it) (toSs Γ.P ns b) [] env) (fun r s' => match r with | .ok f => PostS Γ X F₀ α₀ env ns s₀ Q f s' | .error e => cameBackBy (model Γ.prog Γ.w) A env NE e s') s := by
  have back : ∀ {F' α' vars' oa' h'}, FrS (fun a => X a ∧ a ≠ it) F' α' env ns vars' oa' h' → FrS X F' α' env ns vars' oa' h' := fun f => ⟨f.frm, fun a ha => (f.fx a ha).1, fun i l e => (f.ox i l e).1, fun a e => (f.fr a e).1⟩
  refine codeAny_forLoop_any (fun k s' => ∃ F' α' st' vars' oa' i, (∃ tk, s' = { s₀ with heap := s'.heap, toks := tk }) ∧ Ext X F₀ α₀ s₀.heap F' α' s'.heap ∧ F.Sub F' ∧ Inv Γ F' α' st' s'.heap ∧ FrS (fun a => X a ∧ a ≠ it) F' α' env ns vars' oa' s'.heap ∧
      (F' it = none ∧ it ∉ sAddrs α') ∧ St i s'.heap ∧ i ≤ l.length ∧ k = l.length - i ∧
      loopF t (fun vs st Q => wpSs Γ.P (CallOK Γ n) (NewOK Γ n) b vs st Q) (l.drop i) vars' st' Q) ?_ l.length ⟨F, α, st, vars, oa, 0, hs₀, x₀, .refl _, I, f, hit, h0, Nat.zero_le _, rfl, w⟩
  rintro k s₁ ⟨F₁, α₁, st₁, vars₁, oa₁, i, hs₁, x₁, S₁, I₁, f₁, ⟨t1, t2⟩, hst, hi, rfl, w₁⟩
  have n1 : it ∉ fpOf env := fun c => (f₁.fx it c).2 rfl
  have n2 : ∀ (j : Nat) (m : List D), vars₁[j]? = some (some (.own m)) → it ≠ oa₁ j := fun j m e c => (f₁.ox j m e).2 c.symm
  have inv : ∀ {h' : Heap}, (∀ b o, b ∉ [it] → s₁.heap.get? b = some o → h'.get? b = some o) → Inv Γ F₁ α₁ st₁ h' := fun {h'} kk =>
    I₁.other (fun a o e => kk a o (fun c => by rw [List.mem_singleton] at c; subst c; rw [t1] at e; cases e) (I₁.agree a o e)) (fun a ha o e => kk a o (fun c => by rw [List.mem_singleton] at c; subst c; exact t2 ha) e)
  by_cases hlt : i < l.length
  · refine W.wk.item i s₁ _ _ hlt hst fun v h' tk pv hst' kk => ?_
    have hlive := W.lv _ _ hst'
    have fr' : FrS (fun a => X a ∧ a ≠ it) F₁ α₁ env ns vars₁ oa₁ h' := ⟨f₁.frm.but kk n1 n2, f₁.fx, f₁.ox, fun a e => f₁.fr a (by
      cases e' : s₁.heap.get? a with
      | none => rfl
      | some o =>
        by_cases c : a = it
        · subst c; obtain ⟨o', h2⟩ := hlive; rw [e] at h2; cases h2
        · rw [kk a o (fun c' => c (List.mem_singleton.mp c')) e'] at e; cases e)⟩
    have I' := inv kk
    have x' := x₁.tailBut hit0 kk
    obtain ⟨d, hd, hr⟩ := W.val i v pv
    have hdrop : l.drop i = d :: l.drop (i + 1) := by
      rw [List.drop_eq_getElem_cons hlt]
      rw [List.getElem?_eq_getElem hlt] at hd
      cases hd; rfl
    rw [hdrop] at w₁
    replace w₁ : (match setT t (.d d) vars₁ with | some vs => wpSs Γ.P (CallOK Γ n) (NewOK Γ n) b vs st₁ fun fl vs st => (match fl with | .nx => loopF t (fun vs st Q => wpSs Γ.P (CallOK Γ n) (NewOK Γ n) b vs st Q) (l.drop (i + 1)) vs st Q | .ct => loopF t (fun vs st Q => wpSs Γ.P (CallOK Γ n) (NewOK Γ n) b vs st Q) (l.drop (i + 1)) vs st Q | .bk => Q .nx vs st | .rt v => Q (.rt v) vs st) | none => False) := w₁
    cases e : setT t (.d d) vars₁ with
    | none => rw [e] at w₁; exact w₁.elim
    | some vars₂ =>
      rw [e] at w₁
      have main : wpAny (model Γ.prog Γ.w) A (assign (toT ns t) env v) (fun _ s₂ => wpAny (model Γ.prog Γ.w) A (execs (toSs Γ.P ns b) env) (fun f s₃ => match f with
            | .next | .cont => ∃ m, m < l.length - i ∧ ∃ F' α' st' vars' oa' i, (∃ tk, s₃ = { s₀ with heap := s₃.heap, toks := tk }) ∧ Ext X F₀ α₀ s₀.heap F' α' s₃.heap ∧ F.Sub F' ∧ Inv Γ F' α' st' s₃.heap ∧ FrS (fun a => X a ∧ a ≠ it) F' α' env ns vars' oa' s₃.heap ∧
              (F' it = none ∧ it ∉ sAddrs α') ∧ St i s₃.heap ∧ i ≤ l.length ∧ m = l.length - i ∧
              loopF t (fun vs st Q => wpSs Γ.P (CallOK Γ n) (NewOK Γ n) b vs st Q) (l.drop i) vars' st' Q
            | .brk => PostS Γ X F₀ α₀ env ns s₀ Q .next s₃
            | .ret v => PostS Γ X F₀ α₀ env ns s₀ Q (.ret v) s₃) NE s₂) NE { s₁ with heap := h', toks := tk } := by
        refine assign_T SO EK R.1 (s := { s₁ with heap := h', toks := tk }) (av := .d d) I' fr' (DR.mono S₁ hr) e fun h₂ tk₂ I₂ x₂ f₂ k₂ => ?_
        refine wpAny_mono (hb (fun a => X a ∧ a ≠ it) A { s₁ with heap := h₂, toks := tk₂ } F₁ α₁ st₁ vars₂ oa₁ _ R I₂ f₂ w₁) (fun fl s₃ p => ?_) fun _ _ e => e
        obtain ⟨F₃, α₃, st₃, vars₃, oa₃, g, hs₃, x₃, I₃, f₃, r, q⟩ := p
        have hs : ∃ tk, s₃ = { s₀ with heap := s₃.heap, toks := tk } := tr_trans hs₁ (tr_trans (s₁ := { s₁ with heap := h₂, toks := tk₂ }) ⟨tk₂, rfl⟩ hs₃)
        have x23 := x₂.trans x₃
        have xx : Ext X F₀ α₀ s₀.heap F₃ α₃ s₃.heap := x'.trans (x23.weak fun a o _ ha => ha.1)
        obtain ⟨oi, hoi⟩ := hlive
        have kit := x23.keep it oi hoi t2 (fun c => c.2 rfl)
        have t3 : F₃ it = none ∧ it ∉ sAddrs α₃ := by
          obtain ⟨β, rfl, hβ⟩ := x23.pre
          exact ⟨kit.2.trans t1, not_mem_ext hoi t2 hβ⟩
        have st3 : St (i + 1) s₃.heap := by
          refine W.wk.frame (i + 1) h' s₃.heap hst' fun b hbf o eo => ?_
          rcases W.fp b hbf with rfl | ⟨o', e'⟩
          · rw [hoi] at eo; cases eo; exact kit.1
          · have e1 := S₁ _ _ e'
            have e2 := I'.agree _ _ e1
            rw [eo] at e2
            cases e2
            exact I₃.agree _ _ (x23.sub _ _ e1)
        have go : ∀ (_ : loopF t (fun vs st Q => wpSs Γ.P (CallOK Γ n) (NewOK Γ n) b vs st Q) (l.drop (i + 1)) vars₃ st₃ Q), ∃ m, m < l.length - i ∧ ∃ F' α' st' vars' oa' i, (∃ tk, s₃ = { s₀ with heap := s₃.heap, toks := tk }) ∧ Ext X F₀ α₀ s₀.heap F' α' s₃.heap ∧ F.Sub F' ∧ Inv Γ F' α' st' s₃.heap ∧ FrS (fun a => X a ∧ a ≠ it) F' α' env ns vars' oa' s₃.heap ∧
              (F' it = none ∧ it ∉ sAddrs α') ∧ St i s₃.heap ∧ i ≤ l.length ∧ m = l.length - i ∧
              loopF t (fun vs st Q => wpSs Γ.P (CallOK Γ n) (NewOK Γ n) b vs st Q) (l.drop i) vars' st' Q := fun q =>
          ⟨l.length - (i + 1), by omega, F₃, α₃, st₃, vars₃, oa₃, i + 1, hs, xx, S₁.trans x23.sub, I₃, f₃, t3, st3, hlt, rfl, q⟩
        cases r with
        | nx => exact go q
        | ct => exact go q
        | bk => exact .mk hs xx I₃ (back f₃) .nx q
        | rt r => exact .mk hs xx I₃ (back f₃) (.rt r) q
      cases t with
      | nm j p => exact wpAny_pure (wpAny_mono main (fun _ s₂ h => wpAny_mono h (fun fl s₃ p => by cases fl <;> exact p) fun _ _ e => e.elim) fun _ _ e => e.elim)
      | tp is j p =>
        cases d with
        | tup y => exact W.go (i + 1) { s₁ with heap := h', toks := tk } y v _ _ _ _ _ hst' ⟨i, hd⟩ (wpAny_mono main (fun _ s₂ h => wpAny_mono h (fun fl s₃ p => by cases fl <;> exact p) fun _ _ e => e.elim) fun _ _ e => e.elim)
        | _ => cases e
  · have hi' : i = l.length := by omega
    subst hi'
    refine W.wk.done s₁ _ _ hst fun h' tk kk => ?_
    rw [List.drop_length] at w₁
    refine wpAny_execs_nil ?_
    refine .mk (tr_trans hs₁ ⟨tk, rfl⟩) (x₁.tailBut hit0 kk) (inv kk) (vars' := vars₁) (oa' := oa₁) ⟨f₁.frm.but kk n1 n2, fun a ha => (f₁.fx a ha).1, fun j m e => (f₁.ox j m e).1, fun a e => ?_⟩ .nx w₁
    by_cases c : a = it
    · rw [c]; exact hX
    · refine (f₁.fr a ?_).1
      cases e' : s₁.heap.get? a with
      | none => rfl
      | some o => rw [kk a o (fun c' => c (List.mem_singleton.mp c')) e'] at e; cases e
end
end Mn
end
section
namespace Mn
section
variable {Γ : Wd} {n : Nat} {env : Env} {ns : List String}
theorem st_for (W : WdOK Γ) (SO : StOK env ns) (EK : EOK env ns) {t : Tg} {k : IK} {x : X} {b : Ss} {p : Pos} (hx : SemX Γ n env ns x) (hk : kOK env k) (hb : SemSs Γ n env ns (toSs Γ.P ns b) (wSs Γ n b)) : SemS Γ n env ns (toS Γ.P ns (.for_ t k x b p)) (wS Γ n (.for_ t k x b p)) := by
  refine .one fun X A s F α st vars oa Q R I f w => ?_
  refine wpAny_For ?_ (by intro y; cases k <;> first | rfl | (cases x <;> rfl))
  refine wpAny_mono (iter_start W EK hx hk R I f.frm (Q := fun l st => loopF t (fun vs st Q => wpSs Γ.P (CallOK Γ n) (NewOK Γ n) b vs st Q) l vars st Q) w) (fun xv s₁ h => wpAny_mono h (fun itv s₂ h => ?_) fun _ _ e => e) fun _ _ e => e
  obtain ⟨it, F', α', st', l, fp, Pv, St, rfl, hs, x', I', h1, h2, h3, Wi, h0, q⟩ := h
  have f' := f.step x'
  refine for_loop SO EK hb R I' Wi ⟨h2, h3⟩ (f.fr it h1) h0 hs x'.ofE h1 ⟨f'.frm, fun a ha => ⟨f'.fx a ha, fun c => ?_⟩, fun i m e => ⟨f'.ox i m e, fun c => ?_⟩, fun a e => ⟨f'.fr a e, fun c => ?_⟩⟩ q
  · obtain ⟨_, _, o, e⟩ := f.frm.fp a ha
    rw [c, h1] at e; cases e
  · obtain ⟨_, _, _, vs, ⟨j, hj⟩, _⟩ := own_lt f.frm e
    rw [c, h1] at hj; cases hj
  · obtain ⟨o, ho⟩ := Wi.lv _ _ h0
    rw [← c, e] at ho; cases ho
end
end Mn
end
section
namespace Mn
section
variable (P : Pg) (g : Str → Bool)
mutual
noncomputable def okS : S → Bool
  | .asg t x _ => tgOK t x && notC x && okY P g x
  | .asgA a f x _ _ => decide (f < P.flds.length) && notC x && okY P g a && okY P g x
  | .asgI a k x _ _ => notC x && okY P g a && okY P g k && okY P g x
  | .delI a k _ _ => okY P g a && okY P g k
  | .exp x _ => notC x && okY P g x
  | .iff t a b _ => okY P g t && okSs a && okSs b
  | .whl t b _ => okY P g t && okSs b
  | .for_ _ k x b _ => (match k with | .over => true | .range .. => g (Str.ofString "range") | .rev .. => g (Str.ofString "reversed")) && okY P g x && okSs b
  | .ret x _ => okY P g x
  | .ownA _ x _ ap pc _ => (ap.endLine == pc.line) && okY P g x
  | .pas _ => true
  | .brk _ => true
  | .con _ => true
  | .ownN .. => true
  | .frz _ => true
  | .bad _ => true
noncomputable def okSs : Ss → Bool
  | .nil => true
  | .cons s r => okS s && okSs r
end
end
section
variable {Γ : Wd} {n : Nat} {env : Env} {ns : List String} (W : WdOK Γ) (SO : StOK env ns) (EK : EOK env ns) (g : Str → Bool) (hg : ∀ x, g x = true → env.kindOf x = some .globalImplicit)
include W SO EK hg
mutual
theorem semS : ∀ x : S, okS Γ.P g x = true → SemS Γ n env ns (toS Γ.P ns x) (wS Γ n x)
  | .asg t x _, h => st_asg SO EK (semX W EK g hg x (and2 h).2) (and2 (and2 h).1).2 (and2 (and2 h).1).1
  | .asgA a f x _ _, h => st_asgA W (semX W EK g hg a (and2 (and2 h).1).2) (semX W EK g hg x (and2 h).2) (and2 (and2 (and2 h).1).1).2 (of_decide_eq_true (and2 (and2 (and2 h).1).1).1)
  | .asgI a k x _ _, h => st_asgI (and2 (and2 (and2 h).1).1).1 (semX W EK g hg a (and2 (and2 (and2 h).1).1).2) (semX W EK g hg k (and2 (and2 h).1).2) (semX W EK g hg x (and2 h).2)
  | .delI a k _ _, h => st_delI (semX W EK g hg a (and2 h).1) (semX W EK g hg k (and2 h).2)
  | .exp x _, h => st_exp EK (and2 h).1 (semX W EK g hg x (and2 h).2)
  | .iff t a b _, h => st_iff (semX W EK g hg t (and2 (and2 h).1).1) (semSs a (and2 (and2 h).1).2) (semSs b (and2 h).2)
  | .whl t b _, h => st_whl (semX W EK g hg t (and2 h).1) (semSs b (and2 h).2)
  | .for_ t k x b _, h => st_for W SO EK (semX W EK g hg x (and2 (and2 h).1).2) (match k, (and2 (and2 h).1).1 with | .over, _ => trivial | .range .., h => hg _ h | .rev .., h => hg _ h) (semSs b (and2 h).2)
  | .ret x _, h => st_ret (semX W EK g hg x h)
  | .ownA _ x _ ap pc _, h => st_ownA EK (semX W EK g hg x (and2 h).2) (and2 h).1
  | .pas _, _ => st_pas
  | .brk _, _ => st_brk
  | .con _, _ => st_con
  | .ownN .., _ => st_ownN SO EK
  | .frz _, _ => st_frz
  | .bad _, _ => fun X A s F α st vars oa Q R I f w => w.elim
theorem semSs : ∀ xs : Ss, okSs Γ.P g xs = true → SemSs Γ n env ns (toSs Γ.P ns xs) (wSs Γ n xs)
  | .nil, _ => ss_nil
  | .cons x r, h => ss_cons (semS x (and2 h).1) (semSs r (and2 h).2)
end
end
noncomputable def gOf (sc : Scope) (x : Str) : Bool := sc.names.lookup x == some .globalImplicit
noncomputable def argVars (fi : FnI) (vs : List AV) : Vars := (vs ++ (fi.defs.drop (vs.length + fi.defs.length - fi.npar)).map AV.d).map some ++ List.replicate (fi.ns.length - fi.npar) none
noncomputable def retQ (Q : AV → List AO → Prop) : Fl → Vars → List AO → Prop
  | .rt v, _, st => Q v st
  | .nx, _, st => Q (.d .non) st
  | _, _, _ => False
section
variable {Γ : Wd}
theorem vrs_get {F : Fz} {α : List SA} {l : List AV} {vs : List Value} (h : VRs F α l vs) : ∀ (i : Nat) (av : AV), l[i]? = some av → ∃ v, vs[i]? = some v ∧ VR F α av v := by
  induction h with
  | nil => intro i av h; cases h
  | cons a b ih =>
    intro i av h
    cases i with
    | zero => cases h; exact ⟨_, rfl, a⟩
    | succ i => exact ih i av h
theorem vrs_append {F : Fz} {α : List SA} {l l' : List AV} {vs vs' : List Value} (h : VRs F α l vs) (h' : VRs F α l' vs') : VRs F α (l ++ l') (vs ++ vs') := by
  induction h with
  | nil => exact h'
  | cons a b ih => exact .cons a ih
theorem vrs_ds {F : Fz} {α : List SA} {l : List D} : ∀ {vs : List Value}, DRs F l vs → VRs F α (l.map .d) vs := by
  induction l with
  | nil => intro vs h; cases h; exact .nil
  | cons x l ih => intro vs h; cases h with | cons a b => exact .cons a (ih b)
theorem lookup_zip {ns : List Str} (hn : ns.Nodup) : ∀ {vs : List Value} {i : Nat} {x : Str} {v : Value}, ns[i]? = some x → vs[i]? = some v → ((ns.zip vs).reverse).lookup x = some v := by
  induction ns with
  | nil => intro vs i x v h; simp at h
  | cons y r ih =>
    intro vs i x v hx hv
    cases vs with
    | nil => simp at hv
    | cons u us =>
      rw [List.nodup_cons] at hn
      rw [List.zip_cons_cons, List.reverse_cons, List.lookup_append]
      cases i with
      | zero =>
        simp only [List.getElem?_cons_zero, Option.some.injEq] at hx hv
        subst hx; subst hv
        have : ((r.zip us).reverse).lookup y = none := by
          rw [List.lookup_eq_none_iff]
          intro p hp
          rw [List.mem_reverse] at hp
          have := (List.of_mem_zip hp).1
          simp only [bne_iff_ne, ne_eq, beq_eq_false_iff_ne]
          intro c
          subst c
          exact hn.1 this
        rw [this]
        simp
      | succ i =>
        simp only [List.getElem?_cons_succ] at hx hv
        rw [ih hn.2 hx hv]; rfl
theorem call_ok (W : WdOK Γ) {f : Nat} {fi : FnI} (hfi : Γ.P.fns[f]? = some fi) {body : Ss} (hb : fi.body = toSs Γ.P fi.ns body) (hok : okSs Γ.P (gOf fi.scope) body = true) {n : Nat} {vs : List AV} {st : List AO} {Q : AV → List AO → Prop}
    (h1 : vs.length ≤ fi.npar) (h2 : fi.npar ≤ vs.length + fi.defs.length)
    (w : wpSs Γ.P (CallOK Γ n) (NewOK Γ n) body (argVars fi vs) st (retQ Q)) : CallOK Γ (n + 1) f vs st Q := by
  refine ⟨fi, hfi, fun A s F α us R I r => ?_⟩
  have FO := W.fn f fi hfi
  obtain ⟨o, fd, ho, hd, hsc, hbd, hgl, hcl, hbt, hcr, hbind⟩ := FO.def_
  have hlen := r.length
  obtain ⟨dv, hdv, bt⟩ := hbind s us I.bkeep (by rw [← hlen]; exact h1) (by rw [← hlen]; exact h2)
  have hroom : A.depth < recursionLimit := by have := R.2.1; omega
  have hcode : s.heap.CodeRec fd.code fd.qualname := by
    obtain ⟨c, oc, vs', tq, hc, hoc, hdc, hq⟩ := hcr
    exact ⟨c, oc, vs', tq, hc, I.bkeep _ _ hoc, hdc, hq⟩
  have hlim : s.heap.NoLimit := by
    obtain ⟨m, hl, rr⟩ := W.lim
    exact ⟨m, ns_here I hl, rr⟩
  refine codeAny_call_function hroom (I.bkeep _ _ ho) hd (by rw [hsc]; exact FO.co) (by rw [hsc]; exact FO.gen) (by rw [hbd]) hcode (bt _ _ _ _ ?_)
  rw [hcl, hsc]
  have hall : VRs F α (vs ++ (fi.defs.drop (vs.length + fi.defs.length - fi.npar)).map AV.d) (us ++ dv) := by
    refine vrs_append r (vrs_ds ?_)
    rw [hlen]
    exact hdv.mono fun a o e => I.base a o e
  have hcount : (us ++ dv).length = fi.npar := by
    rw [← hall.length, List.length_append, List.length_map, List.length_drop]
    omega
  have hnd : ((fi.ns.take fi.npar).map Str.ofString).Nodup := by
    rw [List.map_take]; exact FO.nd.sublist (List.take_sublist _ _)
  refine wpAny_newFunctionEnv FO.cel (fun x hx => ?_) (fun h₀ hns hsb => ⟨hlim.fresh _ hsb, codeAny_func ?_⟩) FO.kind
  · have := (List.of_mem_zip hx).1
    obtain ⟨y, hy, e⟩ := List.mem_map.mp this
    rw [← e]
    exact FO.par y (List.mem_of_mem_take hy)
  · generalize henv : newEnv fi.scope s.heap.objs.size fd.globals [] (fd.qualname ++ ".<locals>.") (some fi.addr) fd.code none fd.builtins = env
    have e1 : env.scope = fi.scope := by rw [← henv]; rfl
    have e2 : env.locals = s.heap.objs.size := by rw [← henv]; rfl
    have e3 : env.globals = mainGlobals := by rw [← henv]; exact hgl
    have e4 : env.builtins = builtinsNs := by rw [← henv]; exact hbt
    have e5 : env.cells = [] := by rw [← henv]; rfl
    have efp : fpOf env = [s.heap.objs.size] := by unfold fpOf; rw [e2, e5]; rfl
    have EK : EOK env fi.ns := ⟨by rw [e1]; exact FO.kind, e3, e4, FO.nd, FO.dbg, by rw [efp]; simp, by unfold interactive; rw [e1, FO.kind]; rfl⟩
    have kindOf : ∀ x, env.kindOf x = fi.scope.names.lookup x := fun x => by unfold Env.kindOf; rw [e1]
    have SO : StOK env fi.ns := fun x hx => .inl (by rw [kindOf]; exact FO.par x hx)
    have hg : ∀ x, gOf fi.scope x = true → env.kindOf x = some .globalImplicit := fun x hx => by
      rw [kindOf]; unfold gOf at hx; exact eq_of_beq hx
    have hn := none_new (h := s.heap) rfl
    have kk : ∀ b o, s.heap.get? b = some o → h₀.get? b = some o := fun b o e => hsb.extBut b o (Nat.ne_of_lt (Heap.lt_size e)) (Heap.get?_push_of_some _ e)
    have I₀ : Inv Γ F α st h₀ := I.keeps kk
    have f₀ : FrS (fun a => s.heap.get? a = none) F α env fi.ns (argVars fi vs) (fun _ => 0) h₀ := by
      have la : (argVars fi vs).length = fi.ns.length := by
        unfold argVars
        rw [List.length_append, List.length_map, hall.length, hcount, List.length_replicate]
        have := FO.np
        omega
      have noown : ∀ (i : Nat) (l : List D), (argVars fi vs)[i]? ≠ some (some (.own l)) := fun i l c => by
        unfold argVars at c
        by_cases hi : i < (vs ++ (fi.defs.drop (vs.length + fi.defs.length - fi.npar)).map AV.d).length
        · rw [List.getElem?_append_left (by rw [List.length_map]; exact hi), List.getElem?_map] at c
          obtain ⟨av, hav, e⟩ := Option.map_eq_some_iff.mp c
          cases e
          obtain ⟨v, _, hv⟩ := vrs_get hall i _ hav
          exact hv
        · rw [List.getElem?_append_right (by rw [List.length_map]; omega)] at c
          obtain ⟨_, e⟩ := List.getElem?_eq_some_iff.mp c
          rw [List.getElem_replicate] at e
          cases e
      refine ⟨⟨⟨_, by rw [e2]; exact hns⟩, la, fun i x av hx hv => ?_, fun a ha => ?_, fun i l e => (noown i l e).elim, fun i j l m e => (noown i l e).elim, fun c hc => by rw [e5] at hc; cases hc⟩, fun a ha => ?_, fun i l e => (noown i l e).elim, fun a e => ?_⟩
      · unfold argVars at hv
        by_cases hi : i < (vs ++ (fi.defs.drop (vs.length + fi.defs.length - fi.npar)).map AV.d).length
        · rw [List.getElem?_append_left (by rw [List.length_map]; exact hi), List.getElem?_map] at hv
          obtain ⟨av', hav, e⟩ := Option.map_eq_some_iff.mp hv
          cases e
          obtain ⟨v, hv', hvr⟩ := vrs_get hall i _ hav
          have hi' : i < fi.npar := by rw [hall.length, hcount] at hi; exact hi
          refine ⟨v, .inl ⟨by rw [kindOf]; exact FO.par x (List.mem_of_getElem? hx), _, by rw [e2]; exact hns, ?_⟩, ?_⟩
          · refine lookup_zip hnd (i := i) ?_ hv'
            rw [List.getElem?_map, List.getElem?_take_of_lt hi', hx]; rfl
          · cases av with
            | own l => exact hvr.elim
            | d y => exact hvr
            | ob k => exact hvr
        · rw [List.getElem?_append_right (by rw [List.length_map]; omega)] at hv
          obtain ⟨_, e⟩ := List.getElem?_eq_some_iff.mp hv
          rw [List.getElem_replicate] at e
          cases e
      · rw [efp, List.mem_singleton] at ha
        subst ha
        obtain ⟨o, _, _, ho', _⟩ := hns
        exact ⟨I.fnone hn, I.anone hn, o, ho'⟩
      · rw [efp, List.mem_singleton] at ha
        subst ha; exact hn
      · cases e' : s.heap.get? a with
        | none => rfl
        | some o => rw [kk a o e'] at e; cases e
    have R' : Room (A.deeper env) n := by
      refine ⟨R.1, ?_, ?_⟩
      · have := R.2.1
        show A.depth + 1 + n ≤ _
        omega
      · have := R.2.2
        show A.units + 3 + 8 * n + 40 ≤ _
        omega
    rw [hb]
    refine wpAny_mono (semSs W SO EK (gOf fi.scope) hg body hok (fun a => s.heap.get? a = none) (A.deeper env) _ F α st (argVars fi vs) (fun _ => 0) (retQ Q) R' I₀ f₀ w) (fun fl s' p => ?_) fun _ _ e => e.elim
    obtain ⟨F', α', st', vars', oa', g, ⟨tk, hs'⟩, x, I', f', rr, q⟩ := p
    have xx : ExtE F α s.heap F' α' s'.heap := (ext_keeps F α kk).transX x fun a o e hx => by rw [hx] at e; cases e
    cases rr with
    | nx => exact ⟨F', α', st', _, tk, by rw [hs'], xx, I', .d_non, q⟩
    | rt r => exact ⟨F', α', st', _, tk, by rw [hs'], xx, I', r, q⟩
    | bk => exact q.elim
    | ct => exact q.elim
theorem new_ok (W : WdOK Γ) {c f : Nat} {C : Addr} (hC : Γ.P.clss[c]? = some C) (hf : Γ.P.inits[c]? = some f) {n : Nat} {vs : List AV} {st : List AO} {Q : AV → List AO → Prop}
    (w : CallOK Γ n f (.ob st.length :: vs) (st ++ [.ins c []]) fun v st' => v = .d .non ∧ Q (.ob st.length) st') : NewOK Γ (n + 1) c vs st Q := by
  refine ⟨C, hC, fun A s F α us R I r => ?_⟩
  have CO := W.cl c C hC
  obtain ⟨f', fi, hf', hfi, hin, hty⟩ := CO.ini
  rw [hf] at hf'; cases hf'
  obtain ⟨fi', hfi', w⟩ := w
  rw [hfi] at hfi'; cases hfi'
  have X := kin_here W I
  obtain ⟨h, g, d, t, os⟩ := s
  refine make_core (makes_of X CO.mks) (looks_findIn X hin) (fun self => bind_fn X self hty) (.inl rfl) ?_
  have hn0 : h.get? h.objs.size = none := none_new rfl
  have hn1 : h.get? (h.objs.size + 1) = none := get_size h (by omega)
  have g0 : ((h.push emptyDict).push (instObj C h.objs.size)).get? h.objs.size = some emptyDict := Heap.get?_push_of_some _ (Heap.get?_push_size _ rfl)
  have g1 : ((h.push emptyDict).push (instObj C h.objs.size)).get? (h.objs.size + 1) = some (instObj C h.objs.size) := by
    rw [← Heap.size_push (h := h) (o := emptyDict)]
    exact Heap.get?_push_size _ rfl
  have kk : ∀ b o, h.get? b = some o → ((h.push emptyDict).push (instObj C h.objs.size)).get? b = some o := fun b o e => Heap.get?_push_of_some _ (Heap.get?_push_of_some _ e)
  obtain ⟨J, x⟩ := Inv.alloc I (h' := (h.push emptyDict).push (instObj C h.objs.size)) (h.objs.size + 1, h.objs.size) (.ins c []) hn1 hn0 ⟨_, g1⟩ ⟨_, g0⟩ kk
    ⟨Nat.succ_ne_self _, C, hC, g1, [], 0, g0, .nil⟩
  have R' : Room (A.under (.builtin "type.__call__" ⟨.ref C :: us, []⟩)) n := by
    have hw : (Code.builtin "type.__call__" ⟨.ref C :: us, []⟩).weight = 1 := by rfl
    have hc : (Code.builtin "type.__call__" ⟨.ref C :: us, []⟩).cUnits = 1 := by rfl
    refine ⟨R.1, ?_, ?_⟩
    · have := R.2.1
      show A.depth + (Code.builtin "type.__call__" ⟨.ref C :: us, []⟩).weight + n ≤ _
      rw [hw]; omega
    · have := R.2.2
      show A.units + (Code.builtin "type.__call__" ⟨.ref C :: us, []⟩).cUnits + 8 * n + 40 ≤ _
      rw [hc]; omega
  have hob : VR F (α ++ [(h.objs.size + 1, h.objs.size)]) (.ob st.length) (.ref (h.objs.size + 1)) := ⟨(h.objs.size + 1, h.objs.size), by rw [← I.len]; simp, rfl⟩
  refine codeAny_mono (w _ ⟨(h.push emptyDict).push (instObj C h.objs.size), g, d, t, os⟩ F _ (.ref (h.objs.size + 1) :: us) R' J (.cons hob (x.vrs r))) fun r' s' p => ?_
  cases r' with
  | error e => exact p
  | ok fl =>
    cases fl with
    | ret v =>
      obtain ⟨F', α', st', av, tk, e, y, I', rv, rfl, q⟩ := p
      cases rv
      refine ⟨rfl, ?_⟩
      exact ⟨F', α', st', .ob st.length, tk, by rw [e], x.trans y, I', y.vr hob, q⟩
    | _ => exact p
end
end Mn
end
section
namespace Mn
noncomputable def mgOf (K : Frag) (x : Str) : Option Value := match K.lookup mainGlobals with
  | some o => (match o.data with | .dict es _ => nsFind es x | _ => none)
  | none => none
noncomputable def mgB (K : Frag) : Bool := match K.lookup mainGlobals with
  | some o => (match o.data with | .dict _ _ => true | _ => false)
  | none => false
theorem mg_of {K : Frag} {h : Heap} {mg : Str → Option Value} (X : K.In h) (hb : mgB K = true) (hn : h.Ns mainGlobals mg) (x : Str) : mg x = mgOf K x := by
  obtain ⟨o, es, ep, ho, hd, _, hf⟩ := hn
  unfold mgB at hb
  unfold mgOf
  cases e : K.lookup mainGlobals with
  | none => rw [e] at hb; cases hb
  | some o' =>
    have := X _ _ e
    rw [ho] at this; cases this
    dsimp only
    rw [hd]
    exact (hf x).symm
mutual
noncomputable def datB (K : Frag) : Nat → D → Value → Bool
  | _, .non, .none => true
  | _, .boo a, .bool b => a == b
  | _, .int i, .int j _ => i == j
  | _, .str s, .str x _ => x.cps.toList == s
  | n + 1, .tup l, .ref a => (match K.lookup a with
    | some ⟨.type "tuple", _, .seq vs _, _⟩ => datsB K n l vs.toList
    | _ => false)
  | _, _, _ => false
noncomputable def datsB (K : Frag) : Nat → List D → List Value → Bool
  | _, [], [] => true
  | n + 1, d :: l, v :: vs => datB K n d v && datsB K n l vs
  | _, _, _ => false
end
theorem dat_ok {K : Frag} {h : Heap} (X : K.In h) : ∀ n, (∀ d v, datB K n d v = true → DR (fun a => h.get? a) d v) ∧ (∀ l vs, datsB K n l vs = true → DRs (fun a => h.get? a) l vs) := by
  intro n
  induction n with
  | zero =>
    refine ⟨fun d v e => ?_, fun l vs e => ?_⟩
    · cases d <;> cases v <;> simp [datB] at e
      · exact .non
      · subst e; exact .boo _
      · subst e; exact .int _ _
      · subst e; exact .str _ _
    · cases l <;> cases vs <;> simp [datsB] at e
      exact .nil
  | succ n ih =>
    refine ⟨fun d v e => ?_, fun l vs e => ?_⟩
    · cases d <;> cases v <;> simp [datB] at e
      · exact .non
      · subst e; exact .boo _
      · subst e; exact .int _ _
      · subst e; exact .str _ _
      · rename_i l a
        split at e
        · rename_i od vs k sl ho
          exact .tup (vs := vs.toList) (X _ _ ho) rfl (by simp; rfl) (ih.2 _ _ e)
        · cases e
    · cases l <;> cases vs <;> simp [datsB] at e
      · exact .nil
      · exact .cons (ih.1 _ _ e.1) (ih.2 _ _ e.2)
noncomputable def fdOf (K : Frag) (a : Addr) : FuncData := match K.lookup a with
  | some ⟨_, _, .func fd, _⟩ => fd
  | _ => default
noncomputable def isFn (K : Frag) (a : Addr) : Bool := match K.lookup a with
  | some ⟨_, _, .func _, _⟩ => true
  | _ => false
theorem isFn_ok {K : Frag} {a : Addr} (e : isFn K a = true) : ∃ o, K.lookup a = some o ∧ o.data = .func (fdOf K a) := by
  unfold isFn at e
  unfold fdOf
  split at e
  · rename_i h; rw [h]; exact ⟨_, rfl, rfl⟩
  · cases e
noncomputable def noDbg (x : Str) : Bool := !(x == ("__debug__" : Str)) && !(x == ("__classdict__" : Str))
noncomputable def fnB (K : Frag) (fi : FnI) : Bool :=
  isFn K fi.addr && decide ((fdOf K fi.addr).scope = fi.scope) && (fdOf K fi.addr).globals == mainGlobals && (fdOf K fi.addr).closure.isEmpty && (fdOf K fi.addr).builtins == builtinsNs &&
  codeIn K (fdOf K fi.addr).code (fdOf K fi.addr).qualname && keepIn K (.ref fi.addr) && decide (fi.scope.kind = .function) && !fi.scope.isCoroutine && !fi.scope.isGenerator &&
  decide (fi.ns.map Str.ofString).Nodup && fi.ns.all (fun x => noDbg (Str.ofString x)) && decide (fi.npar ≤ fi.ns.length) &&
  fi.ns.all (fun x => decide (fi.scope.names.lookup (Str.ofString x) = some .local)) && fi.scope.names.all (fun x => decide (x.2 ≠ .cell)) &&
  (fi.gname == "" || (!(Str.ofString fi.gname == ("__debug__" : Str)) && decide (mgOf K (Str.ofString fi.gname) = some (.ref fi.addr))))
noncomputable def clsB (K : Frag) (P : Pg) (c : Nat) (C : Addr) : Bool :=
  decide (findIn K (.ref C) "__getattribute__" = some (some (.builtin "object.__getattribute__"))) && decide (findIn K (.ref C) "__getattr__" = some none) && decide (findIn K (.ref C) "__setattr__" = some (some (.builtin "object.__setattr__"))) &&
  hasDictIn K C && plainOver K C && makesIn K C && keepIn K (.ref C) &&
  (List.range P.flds.length).all (fun f => decide (findIn K (.ref C) (P.fld f) = some none)) &&
  (P.mtab.getD c []).all (fun mf => match P.fns[mf.2]? with
    | some fi => decide (findIn K (.ref C) (Str.ofString (P.mths.getD mf.1 "")) = some (some (.ref fi.addr))) && decide (typeIn K (.ref fi.addr) = some (.type "function")) && (List.range P.flds.length).all (fun g => decide (P.fld g ≠ Str.ofString (P.mths.getD mf.1 "")))
    | none => false) &&
  (match P.inits[c]? with
    | some f => (match P.fns[f]? with | some fi => decide (findIn K (.ref C) "__init__" = some (some (.ref fi.addr))) && decide (typeIn K (.ref fi.addr) = some (.type "function")) | none => false)
    | none => false)
noncomputable def clsAll (K : Frag) (P : Pg) : Nat → List Addr → Bool
  | _, [] => true
  | c, C :: r => clsB K P c C && clsAll K P (c + 1) r
theorem clsAll_get {K : Frag} {P : Pg} : ∀ {c : Nat} {l : List Addr}, clsAll K P c l = true → ∀ (i : Nat) (C : Addr), l[i]? = some C → clsB K P (c + i) C = true
  | _, [], _, i, C, h => by simp at h
  | c, D :: r, e, 0, C, h => by simp at h; subst h; unfold clsAll at e; rw [Bool.and_eq_true] at e; exact e.1
  | c, D :: r, e, i + 1, C, h => by
    unfold clsAll at e; rw [Bool.and_eq_true] at e
    simp at h
    have := clsAll_get e.2 i C h
    rwa [show c + 1 + i = c + (i + 1) by omega] at this
noncomputable def gtB (K : Frag) (q : String × D) : Bool := !(Str.ofString q.1 == ("__debug__" : Str)) && (match mgOf K (Str.ofString q.1) with | some v => datB K 12 q.2 v | none => false)
noncomputable def biL : List BI := [.int, .len, .chr, .ord, .str, .abs, .min, .tuple]
theorem biL_all (b : BI) : b ∈ biL := by cases b <;> simp [biL]
noncomputable def btB (K : Frag) (x : Str) (v : Value) : Bool := decide (mgOf K x = none) && decide (bootBuiltins x = some v) && !(x == ("__name__" : Str))
noncomputable def clgB (K : Frag) : List Addr → List String → Bool
  | C :: r, x :: s => !(Str.ofString x == ("__debug__" : Str)) && decide (mgOf K (Str.ofString x) = some (.ref C)) && clgB K r s
  | _, _ => true
theorem clgB_get {K : Frag} : ∀ {l : List Addr} {s : List String}, clgB K l s = true → ∀ (i : Nat) (C : Addr) (x : String), l[i]? = some C → s[i]? = some x → (Str.ofString x == ("__debug__" : Str)) = false ∧ mgOf K (Str.ofString x) = some (.ref C)
  | [], _, _, i, C, x, h, _ => by simp at h
  | _ :: _, [], _, i, C, x, _, h => by simp at h
  | D :: r, y :: s, e, 0, C, x, h, h' => by
    simp at h h'; subst h; subst h'
    unfold clgB at e; simp only [Bool.and_eq_true, Bool.not_eq_true', decide_eq_true_eq] at e
    exact e.1
  | D :: r, y :: s, e, i + 1, C, x, h, h' => by
    unfold clgB at e; simp only [Bool.and_eq_true] at e
    simp at h h'
    exact clgB_get e.2 i C x h h'
noncomputable def Binds (K : Frag) (fi : FnI) : Prop := ∀ (B : Heap) (s : Shared) (vs : List Value), K.In B → (∀ b o, B.get? b = some o → s.heap.get? b = some o) → vs.length ≤ fi.npar → fi.npar ≤ vs.length + fi.defs.length →
  ∃ dv, DRs (fun a => B.get? a) (fi.defs.drop (vs.length + fi.defs.length - fi.npar)) dv ∧ BindsTo s (fdOf K fi.addr) ⟨vs, []⟩ (((fi.ns.take fi.npar).map Str.ofString).zip (vs ++ dv))
noncomputable def AllB (K : Frag) : List FnI → Prop
  | [] => True
  | fi :: r => ((fdOf K fi.addr).body = .stmts fi.body ∧ Binds K fi) ∧ AllB K r
theorem AllB.get {K : Frag} : ∀ {l : List FnI}, AllB K l → ∀ (f : Nat) (fi : FnI), l[f]? = some fi → (fdOf K fi.addr).body = .stmts fi.body ∧ Binds K fi
  | [], _, f, fi, h => by simp at h
  | _ :: _, x, 0, fi, h => by simp at h; subst h; exact x.1
  | _ :: _, x, f + 1, fi, h => by simp at h; exact AllB.get x.2 f fi h
noncomputable def AllI (P : Pg) : List FnI → List Ss → Prop
  | fi :: r, ir :: s => (fi.body = toSs P fi.ns ir ∧ okSs P (gOf fi.scope) ir = true) ∧ AllI P r s
  | _, _ => True
theorem AllI.get {P : Pg} : ∀ {l : List FnI} {s : List Ss}, AllI P l s → ∀ (f : Nat) (fi : FnI) (ir : Ss), l[f]? = some fi → s[f]? = some ir → fi.body = toSs P fi.ns ir ∧ okSs P (gOf fi.scope) ir = true
  | [], _, _, f, fi, ir, h, _ => by simp at h
  | _ :: _, [], _, f, fi, ir, _, h => by simp at h
  | _ :: _, _ :: _, x, 0, fi, ir, h, h' => by simp at h h'; subst h; subst h'; exact x.1
  | _ :: _, _ :: _, x, f + 1, fi, ir, h, h' => by simp at h h'; exact AllI.get x.2 f fi ir h h'
theorem wd_ok {Γ : Wd} (X : Γ.K.In Γ.B) (hg : Γ.B.Ns mainGlobals Γ.mg) (hb : Γ.B.Ns builtinsNs Γ.mb) (hl : Γ.B.NoLimit) (hbb : ∀ x : Str, x ≠ "__name__" → Γ.mb x = bootBuiltins x)
    (m : mgB Γ.K = true) (f1 : Γ.P.fns.all (fnB Γ.K) = true) (f2 : AllB Γ.K Γ.P.fns) (c1 : clsAll Γ.K Γ.P 0 Γ.P.clss = true) (g1 : Γ.P.gtab.all (gtB Γ.K) = true)
    (b1 : biL.all (fun b => btB Γ.K (Str.ofString b.name) b.val) = true) (b2 : btB Γ.K (Str.ofString "range") (.type "range") = true) (b3 : btB Γ.K (Str.ofString "reversed") (.type "reversed") = true)
    (c2 : clgB Γ.K Γ.P.clss Γ.P.clsN = true) (n1 : (Γ.P.flds.map Str.ofString).Nodup) : WdOK Γ := by
  have MG := mg_of X m hg
  have bt : ∀ {x : Str} {v : Value}, btB Γ.K x v = true → Γ.mg x = none ∧ Γ.mb x = some v := fun {x v} e => by
    unfold btB at e
    simp only [Bool.and_eq_true, decide_eq_true_eq, Bool.not_eq_true', beq_eq_false_iff_ne] at e
    exact ⟨(MG x).trans e.1.1, (hbb x e.2).trans e.1.2⟩
  have fnb : ∀ (f : Nat) (fi : FnI), Γ.P.fns[f]? = some fi → fnB Γ.K fi = true := fun f fi h => List.all_eq_true.mp f1 fi (List.mem_of_getElem? h)
  refine ⟨X, hg, hb, hl, fun k x d h => ?_, fun b => bt (List.all_eq_true.mp b1 b (biL_all b)), bt b2, bt b3, fun f fi h => ?_, fun f fi h hn => ?_, fun c C h => ?_, fun c C x h h' => ?_, fun f g hf hg' e => ?_, modules_low hl⟩
  · have := List.all_eq_true.mp g1 _ (List.mem_of_getElem? h)
    unfold gtB at this
    simp only [Bool.and_eq_true, Bool.not_eq_true'] at this
    refine ⟨this.1, ?_⟩
    have h2 := this.2
    split at h2
    · rename_i v hv
      exact ⟨v, (MG _).trans hv, (dat_ok X 12).1 _ _ h2⟩
    · cases h2
  · have e := fnb f fi h
    obtain ⟨hbody, hbind⟩ := f2.get f fi h
    unfold fnB at e
    simp only [Bool.and_eq_true, decide_eq_true_eq, beq_iff_eq, Bool.not_eq_true', List.all_eq_true, List.isEmpty_iff] at e
    obtain ⟨⟨⟨⟨⟨⟨⟨⟨⟨⟨⟨⟨⟨⟨⟨e1, e2⟩, e3⟩, e4⟩, e5⟩, e6⟩, e7⟩, e8⟩, e9⟩, e10⟩, e11⟩, e12⟩, e13⟩, e14⟩, e15⟩, _⟩ := e
    obtain ⟨o, ho, hd⟩ := isFn_ok e1
    refine ⟨⟨o, fdOf Γ.K fi.addr, X _ _ ho, hd, e2, hbody, e3, e4, e5, codeRec_of X e6, fun s vs hs h1 h2 => hbind Γ.B s vs X hs h1 h2⟩, e7, e8, e9, e10, e11, fun x hx => ?_, e13, e14, e15⟩
    have := e12 x hx
    unfold noDbg at this
    simp only [Bool.and_eq_true, Bool.not_eq_true'] at this
    exact this
  · have e := fnb f fi h
    unfold fnB at e
    simp only [Bool.and_eq_true, Bool.or_eq_true, beq_iff_eq, Bool.not_eq_true', decide_eq_true_eq] at e
    rcases e.2 with c | c
    · exact absurd c hn
    · exact ⟨c.1, (MG _).trans c.2⟩
  · have e := clsAll_get c1 c C h
    rw [Nat.zero_add] at e
    unfold clsB at e
    simp only [Bool.and_eq_true, decide_eq_true_eq, List.all_eq_true, List.mem_range] at e
    obtain ⟨⟨⟨⟨⟨⟨⟨⟨⟨e1, e2⟩, e3⟩, e4⟩, e5⟩, e6⟩, e7⟩, e8⟩, e9⟩, e10⟩ := e
    refine ⟨e1, e2, e3, e4, e5, e8, e6, e7, fun mm f hm => ?_, ?_⟩
    · unfold mthOf at hm
      obtain ⟨l, hl', hlk⟩ := Option.bind_eq_some_iff.mp hm
      have hmem : (mm, f) ∈ Γ.P.mtab.getD c [] := by
        rw [List.getD_eq_getElem?_getD, hl']
        show (mm, f) ∈ l
        clear hl'
        induction l with
        | nil => cases hlk
        | cons p r ih =>
          obtain ⟨a, b⟩ := p
          rw [List.lookup_cons] at hlk
          by_cases hp : (mm == a) = true
          · rw [hp] at hlk
            cases hlk
            rw [eq_of_beq hp]
            exact List.mem_cons_self
          · rw [Bool.not_eq_true] at hp
            rw [hp] at hlk
            exact List.mem_cons_of_mem _ (ih hlk)
      have := e9 _ hmem
      dsimp only at this
      split at this
      · rename_i fi hfi
        simp only [Bool.and_eq_true, decide_eq_true_eq, List.all_eq_true, List.mem_range] at this
        exact ⟨fi, hfi, this.1.1, this.1.2, this.2⟩
      · cases this
    · split at e10
      · rename_i f hf
        split at e10
        · rename_i fi hfi
          simp only [Bool.and_eq_true, decide_eq_true_eq] at e10
          exact ⟨f, fi, hf, hfi, e10.1, e10.2⟩
        · cases e10
      · cases e10
  · obtain ⟨d1, d2⟩ := clgB_get c2 c C x h h'
    exact ⟨d1, (MG _).trans d2⟩
  · have h1 : (Γ.P.flds.map Str.ofString)[f]'(by rw [List.length_map]; exact hf) = (Γ.P.flds.map Str.ofString)[g]'(by rw [List.length_map]; exact hg') := by
      rw [List.getElem_map, List.getElem_map]
      unfold Pg.fld at e
      rw [List.getD_eq_getElem?_getD, List.getD_eq_getElem?_getD, List.getElem?_eq_getElem hf, List.getElem?_eq_getElem hg'] at e
      exact e
    exact (List.getElem_inj n1).mp h1
end Mn
end
section
namespace Mn
theorem lookup_zip' : ∀ {ns : List Str} {vs : List Value}, ns.Nodup → ∀ (i : Nat) (x : Str), ns[i]? = some x → (ns.zip vs).lookup x = vs[i]?
  | [], _, _, i, x, h => by simp at h
  | y :: r, [], _, i, x, h => by simp
  | y :: r, v :: vs, hn, 0, x, h => by
    simp at h; subst h
    rw [List.zip_cons_cons, List.lookup_cons]; simp
  | y :: r, v :: vs, hn, i + 1, x, h => by
    rw [List.nodup_cons] at hn
    simp at h
    have hx : x ≠ y := fun e => hn.1 (e ▸ List.mem_of_getElem? h)
    rw [List.zip_cons_cons, List.lookup_cons]
    have hb : (x == y) = false := beq_eq_false_iff_ne.mpr hx
    rw [hb, List.getElem?_cons_succ]
    exact lookup_zip' hn.2 i x h
noncomputable def addB (acc : List (Str × Value)) (x : Str × Value) : List (Str × Value) := if (acc.lookup x.1).isNone = true then acc ++ [(x.1, x.2)] else acc
theorem for_add : ∀ (l : List (Str × Value)) (acc : List (Str × Value)),
    (forIn l acc fun x (r : List (Str × Value)) => (if (List.lookup x.1 r).isNone = true then pure (ForInStep.yield (r ++ [(x.1, x.2)])) else pure (ForInStep.yield r) : Sem (ForInStep (List (Str × Value))))) = pure (l.foldl addB acc)
  | [], acc => by rw [List.forIn_nil]; rfl
  | x :: l, acc => by
    rw [List.forIn_cons, List.foldl_cons]
    unfold addB
    by_cases h : (List.lookup x.1 acc).isNone = true
    · rw [if_pos h, if_pos h, pure_bind]
      exact for_add l _
    · rw [if_neg h, if_neg h, pure_bind]
      exact for_add l _
theorem fold_add : ∀ (l acc : List (Str × Value)), (l.map (·.1)).Nodup → l.foldl addB acc = acc ++ l.filter fun x => (acc.lookup x.1).isNone
  | [], acc, _ => by simp
  | x :: l, acc, hn => by
    rw [List.map_cons, List.nodup_cons] at hn
    rw [List.foldl_cons, fold_add l _ hn.2]
    unfold addB
    rw [List.filter_cons]
    by_cases h : (acc.lookup x.1).isNone = true
    · rw [if_pos h, if_pos h, List.append_assoc, List.singleton_append]
      congr 2
      apply List.filter_congr
      intro y hy
      rw [List.lookup_append]
      have : (y.1 == x.1) = false := beq_eq_false_iff_ne.mpr fun e => hn.1 (e ▸ List.mem_map_of_mem hy)
      simp [List.lookup_cons, this]
    · rw [if_neg h, if_neg h]
theorem lookup_filter {p : Str × Value → Bool} {n : Str} (hp : ∀ v, p (n, v) = true) : ∀ l : List (Str × Value), (l.filter p).lookup n = l.lookup n
  | [] => rfl
  | (m, v) :: l => by
    rw [List.filter_cons, List.lookup_cons]
    by_cases e : (n == m) = true
    · have : n = m := eq_of_beq e
      subst this
      rw [hp v, if_pos rfl, List.lookup_cons]
      simp
    · rw [Bool.not_eq_true] at e
      rw [e]
      split
      · rw [List.lookup_cons, e]; exact lookup_filter hp l
      · exact lookup_filter hp l
theorem filterMap_zip : ∀ {ns : List Str} {full : List Value} {g : Str → Option Value}, full.length = ns.length → (∀ (i : Nat) (x : Str), ns[i]? = some x → g x = full[i]?) → ns.filterMap (fun n => (g n).map fun v => (n, v)) = ns.zip full
  | [], _, _, _, _ => by simp
  | x :: r, [], _, h, _ => by simp at h
  | x :: r, v :: vs, g, h, hg => by
    have h0 := hg 0 x rfl
    simp only [List.getElem?_cons_zero] at h0
    rw [List.filterMap_cons, h0, List.zip_cons_cons]
    simp only [Option.map_some]
    rw [filterMap_zip (by simpa using h) fun i y hy => ?_]
    have := hg (i + 1) y (by simpa using hy)
    simpa using this
theorem bind_gen {s : Shared} {fd : FuncData} {names : List Str} {vs : List Value} {ds : List Value}
    (hp : fd.params.posonlyargs = []) (ha : fd.params.args.map (·.arg) = names) (hk : fd.params.kwonlyargs = []) (hv : fd.params.vararg = none) (hw : fd.params.kwarg = none)
    (hs : ∀ (M : Model) (A : Around) (E : Value → Shared → Prop) (Q : Option (Array Value) → Shared → Prop), (∀ o, (o.getD #[]).toList = ds → Q o s) → wpAny M A (seqItems? fd.defaults) Q E s)
    (hn : names.Nodup) (h1 : vs.length ≤ names.length) (h2 : names.length ≤ vs.length + ds.length) (h3 : ds.length ≤ names.length) : BindsTo s fd ⟨vs, []⟩ (names.zip (vs ++ ds.drop (vs.length + ds.length - names.length))) := by
  intro M A E Q q
  unfold bindArgs
  simp only [hp, ha, hk, hv, hw, List.map_nil, List.nil_append, List.forIn_nil, pure_bind, List.append_nil]
  refine wpAny_bind (hs _ _ _ _ fun o ho => ?_)
  have c1 : ¬ (vs.length > names.length) := by omega
  simp only [ho, decide_eq_false c1, Bool.false_and, Bool.false_eq_true, if_false]
  have c2 : ds.length - names.length = 0 := by omega
  rw [c2, List.drop_zero]
  have c3 : (List.filter (fun n => (List.lookup n (names.zip vs)).isNone) (List.take (names.length - ds.length) names)) = [] := by
    rw [List.filter_eq_nil_iff]
    intro x hx
    obtain ⟨i, hi⟩ := List.mem_iff_getElem?.mp hx
    rw [List.getElem?_take] at hi
    split at hi
    · rename_i hlt
      rw [lookup_zip' hn i x hi, List.getElem?_eq_getElem (by omega)]
      simp
    · cases hi
  rw [c3]
  simp only [List.isEmpty_nil, Bool.not_true, Bool.false_eq_true, if_false]
  rw [for_add, pure_bind]
  refine wpAny_pure ?_
  have c4 : (((List.drop (names.length - ds.length) names).zip ds).map (·.1)).Nodup := by
    have : ((List.drop (names.length - ds.length) names).zip ds).map (·.1) = List.drop (names.length - ds.length) names := by
      rw [List.map_fst_zip]
      rw [List.length_drop]; omega
    rw [this]
    exact hn.sublist (List.drop_sublist _ _)
  rw [fold_add _ _ c4]
  rw [filterMap_zip (full := vs ++ ds.drop (vs.length + ds.length - names.length))]
  · exact q
  · rw [List.length_append, List.length_drop]; omega
  · intro i x hx
    have hi : i < names.length := (List.getElem?_eq_some_iff.mp hx).1
    rw [List.lookup_append, lookup_zip' hn i x hx]
    by_cases h : i < vs.length
    · rw [List.getElem?_append_left h, List.getElem?_eq_getElem h]; rfl
    · have e : vs[i]? = none := List.getElem?_eq_none (by omega)
      rw [e, Option.none_or, lookup_filter (fun v => by rw [lookup_zip' hn i x hx, e]; rfl), List.getElem?_append_right (by omega), List.getElem?_drop]
      have : (List.drop (names.length - ds.length) names)[i - (names.length - ds.length)]? = some x := by
        rw [List.getElem?_drop, show names.length - ds.length + (i - (names.length - ds.length)) = i by omega]; exact hx
      rw [lookup_zip' (hn.sublist (List.drop_sublist _ _)) _ x this]
      congr 1
      omega
noncomputable def defsOf (K : Frag) (fd : FuncData) : Option (List Value) := match fd.defaults with
  | .none => some []
  | .ref T => (match K.lookup T with | some ⟨_, _, .seq vs _, _⟩ => some vs.toList | _ => none)
  | _ => none
noncomputable def bindB (K : Frag) (fi : FnI) : Bool :=
  let fd := fdOf K fi.addr
  fd.params.posonlyargs.isEmpty && decide (fd.params.args.map (·.arg) = (fi.ns.take fi.npar).map Str.ofString) && fd.params.kwonlyargs.isEmpty && fd.params.vararg.isNone && fd.params.kwarg.isNone &&
  (match defsOf K fd with | some dv => datsB K 20 fi.defs dv | none => false) && decide ((fi.ns.map Str.ofString).Nodup) && decide (fi.defs.length ≤ fi.npar) && decide (fi.npar ≤ fi.ns.length)
theorem binds_of {K : Frag} {fi : FnI} (e : bindB K fi = true) : Binds K fi := by
  intro B s vs hB hs h1 h2
  unfold bindB at e
  simp only [Bool.and_eq_true, decide_eq_true_eq, List.isEmpty_iff, Option.isNone_iff_eq_none] at e
  obtain ⟨⟨⟨⟨⟨⟨⟨⟨e1, e2⟩, e3⟩, e4⟩, e5⟩, e6⟩, e7⟩, e8⟩, e9⟩ := e
  cases hd : defsOf K (fdOf K fi.addr) with
  | none => rw [hd] at e6; cases e6
  | some dv =>
    rw [hd] at e6
    have D := (dat_ok hB 20).2 _ _ e6
    have hlen := D.length
    have hnl : ((fi.ns.take fi.npar).map Str.ofString).length = fi.npar := by rw [List.length_map, List.length_take]; omega
    refine ⟨dv.drop (vs.length + fi.defs.length - fi.npar), D.drop _, ?_⟩
    have := bind_gen (s := s) (vs := vs) (ds := dv) e1 e2 e3 e4 e5 ?_ ?_ (by rw [hnl]; exact h1) (by rw [hnl, ← hlen]; exact h2) (by rw [hnl, ← hlen]; exact e8)
    · rw [hnl, ← hlen] at this; exact this
    · intro M A E Q q
      unfold defsOf at hd
      split at hd
      · rename_i h
        cases hd
        rw [h]
        exact wpAny_pure (q _ rfl)
      · rename_i T h
        split at hd
        · rename_i c d vs' k sl ho
          cases hd
          rw [h]
          exact wpAny_seqItems (hs _ _ (hB _ _ ho)) rfl (q _ rfl)
        · cases hd
      · cases hd
    · rw [List.map_take]; exact e7.sublist (List.take_sublist _ _)
end Mn
end
section
namespace Mn
theorem drs_ints {F : Fz} : ∀ {vs : List Value} {is : List Int}, IntsAre vs is → DRs F (is.map .int) vs := by
  intro vs is h
  induction h with
  | nil => exact .nil
  | cons n t _ ih => exact .cons (.int n t) ih
noncomputable def lawVars (ns : List String) (is : List Int) : Vars := some (.d (.lst (is.map .int))) :: List.replicate (ns.length - 1) none
theorem law_entry {Γ : Wd} (W : WdOK Γ)
    {env : Env} {x0 : String} {nr : List String} {ir : Ss} {n : Nat}
    (e0 : env.locals = Γ.B.objs.size) (e1 : env.scope.kind = .function) (e3 : env.globals = mainGlobals) (e4 : env.builtins = builtinsNs) (e5 : env.cells = [])
    (hok : okSs Γ.P (gOf env.scope) ir = true) (hchk : (decide ((x0 :: nr).map Str.ofString).Nodup && (x0 :: nr).all (fun x => noDbg (Str.ofString x)) && (x0 :: nr).all (fun x => decide (env.scope.names.lookup (Str.ofString x) = some .local))) = true)
    {L : Addr} {vs : List Value} {is : List Int} (hL : Γ.B.IsList L vs.toArray) (hI : IntsAre vs is) {s : Shared} {m : Str → Option Value} (F : Fr Γ.B Γ.B.objs.size s.heap m) (hm : m (Str.ofString x0) = some (.ref L))
    {A : Around} (R : Room A n) (run : wpSs Γ.P (CallOK Γ n) (NewOK Γ n) ir (lawVars (x0 :: nr) is) [] fun fl _ _ => fl = .rt (.d (.boo true))) :
    wpAny (model Γ.prog Γ.w) A (execs (toSs Γ.P (x0 :: nr) ir) env) (fun f s' => f = .ret (.bool true) ∧ (∀ b o, Γ.B.get? b = some o → s'.heap.get? b = some o) ∧ ∃ tk, s' = { s with heap := s'.heap, toks := tk }) NE s := by
  simp only [Bool.and_eq_true, decide_eq_true_eq, List.all_eq_true] at hchk
  obtain ⟨⟨hnd, hdbg⟩, hloc⟩ := hchk
  have hn := none_new (h := Γ.B) rfl
  have efp : fpOf env = [Γ.B.objs.size] := by unfold fpOf; rw [e0, e5]; rfl
  have EK : EOK env (x0 :: nr) := ⟨e1, e3, e4, hnd, fun x hx => by
    have := hdbg x hx
    unfold noDbg at this
    simp only [Bool.and_eq_true, Bool.not_eq_true'] at this
    exact this, by rw [efp]; simp, by unfold interactive; rw [e1]; rfl⟩
  have SO : StOK env (x0 :: nr) := fun x hx => .inl (hloc x hx)
  have hg : ∀ x, gOf env.scope x = true → env.kindOf x = some .globalImplicit := fun x hx => by unfold gOf at hx; exact eq_of_beq hx
  have I : Inv Γ (fun a => Γ.B.get? a) [] [] s.heap := ⟨fun a o e => F.keep a o e, fun a o e => e, rfl, fun i p ao h => (by simp at h), fun a ha => (by cases ha), fun a ha => (by cases ha), List.Pairwise.nil⟩
  have script : DR (fun a => Γ.B.get? a) (.lst (is.map .int)) (.ref L) := by
    obtain ⟨o, ho, hc, k, hd⟩ := hL
    exact .lst (F := fun a => Γ.B.get? a) ho hc hd (drs_ints hI)
  have f : FrS (fun a => Γ.B.get? a = none) (fun a => Γ.B.get? a) [] env (x0 :: nr) (lawVars (x0 :: nr) is) (fun _ => 0) s.heap := by
    have noown : ∀ (i : Nat) (l : List D), (lawVars (x0 :: nr) is)[i]? ≠ some (some (.own l)) := fun i l c => by
      unfold lawVars at c
      cases i with
      | zero => simp at c
      | succ i =>
        rw [List.getElem?_cons_succ] at c
        obtain ⟨_, e⟩ := List.getElem?_eq_some_iff.mp c
        rw [List.getElem_replicate] at e
        cases e
    refine ⟨⟨⟨m, by rw [e0]; exact F.ns⟩, by simp [lawVars], fun i x av hx hv => ?_, fun a ha => ?_, fun i l e => (noown i l e).elim, fun i j l m e => (noown i l e).elim, fun c hc => by rw [e5] at hc; cases hc⟩, fun a ha => ?_, fun i l e => (noown i l e).elim, fun a e => ?_⟩
    · unfold lawVars at hv
      cases i with
      | zero =>
        simp only [List.getElem?_cons_zero, Option.some.injEq] at hx hv
        subst hx; subst hv
        exact ⟨.ref L, .inl ⟨hloc x0 List.mem_cons_self, m, by rw [e0]; exact F.ns, hm⟩, script⟩
      | succ i =>
        rw [List.getElem?_cons_succ] at hv
        obtain ⟨_, e⟩ := List.getElem?_eq_some_iff.mp hv
        rw [List.getElem_replicate] at e
        cases e
    · rw [efp, List.mem_singleton] at ha
      subst ha
      obtain ⟨o, _, _, ho, _⟩ := F.ns
      exact ⟨hn, (by simp [sAddrs]), o, ho⟩
    · rw [efp, List.mem_singleton] at ha
      subst ha; exact hn
    · cases e' : Γ.B.get? a with
      | none => rfl
      | some o => rw [F.keep a o e'] at e; cases e
  refine wpAny_mono (semSs W SO EK (gOf env.scope) hg ir hok _ A s _ [] [] _ _ (fun fl _ _ => fl = .rt (.d (.boo true))) R I f run) (fun fl s' p => ?_) fun _ _ e => e
  obtain ⟨F', α', st'', vars', oa', g, hs, x, I', f', rr, q⟩ := p
  subst q
  cases rr with
  | rt r =>
    rename_i u
    have : u = .bool true := by cases r; rfl
    subst this
    exact ⟨rfl, I'.bkeep, hs⟩
end Mn
end
section
namespace Mn
noncomputable def ns0 : List String := []
noncomputable def ir0 : Ss := (.cons (.ret (.tup (.cons (.cstr "[]" 0 ⟨13,12,13,16⟩) (.cons (.cstr "." 0 ⟨13,18,13,21⟩) (.cons (.cstr "{}" 0 ⟨13,23,13,27⟩) (.cons (.cstr "-" 0 ⟨13,29,13,32⟩) (.cons (.cstr "+" 0 ⟨13,34,13,37⟩) (.cons (.cstr "*" 0 ⟨13,39,13,42⟩) (.cons (.cstr "/" 0 ⟨13,44,13,47⟩) (.cons (.cstr "," 0 ⟨13,49,13,52⟩) (.cons (.cstr "|" 0 ⟨13,54,13,57⟩) (.cons (.cstr ";" 0 ⟨13,59,13,62⟩) (.cons (.cstr "->" 0 ⟨13,64,13,68⟩) (.cons (.cstr "\\+" 0 ⟨13,70,13,75⟩) (.cons (.cstr ":-" 0 ⟨13,77,13,81⟩) (.cons (.cstr "?-" 0 ⟨13,83,13,87⟩) (.cons (.cstr "-->" 0 ⟨13,89,13,94⟩) (.cons (.cstr "!" 0 ⟨13,96,13,99⟩) (.cons (.cstr "true" 0 ⟨13,101,13,107⟩) (.cons (.cstr "fail" 0 ⟨13,109,13,115⟩) (.cons (.cstr "false" 0 ⟨13,117,13,124⟩) (.cons (.cstr "call" 0 ⟨13,126,13,132⟩) (.cons (.cstr "=" 0 ⟨13,134,13,137⟩) (.cons (.cstr "^" 0 ⟨13,139,13,142⟩) (.cons (.cstr "error" 0 ⟨13,144,13,151⟩) (.cons (.cstr "" 0 ⟨13,153,13,155⟩) (.cons (.cstr "end_of_file" 0 ⟨13,157,13,170⟩) (.cons (.cstr "system" 0 ⟨13,172,13,180⟩) (.cons (.cstr "$VAR" 0 ⟨13,182,13,188⟩) (.cons (.cstr "catch" 0 ⟨13,190,13,197⟩) (.cons (.cstr "throw" 0 ⟨13,199,13,206⟩) .nil))))))))))))))))))))))))))))) 0 ⟨13,11,13,207⟩) ⟨13,4,13,207⟩)
  .nil)
noncomputable def sc0 : Scope := ⟨.function, [], false, false, []⟩
noncomputable def fh0 : FnI := ⟨28, "fixed_atoms", Str.ofString "fixed_atoms", sc0, ⟨[], [], none, [], [], none, []⟩, [], ns0, 0, []⟩
noncomputable def ns1 : List String := []
noncomputable def ir1 : Ss := (.cons (.ret (.tup (.cons (.tup (.cons (.cstr "." 0 ⟨15,13,15,16⟩) (.cons (.cint (2) 0 ⟨15,18,15,19⟩) .nil)) 0 ⟨15,12,15,20⟩) (.cons (.tup (.cons (.cstr "," 0 ⟨15,23,15,26⟩) (.cons (.cint (2) 0 ⟨15,28,15,29⟩) .nil)) 0 ⟨15,22,15,30⟩) (.cons (.tup (.cons (.cstr ";" 0 ⟨15,33,15,36⟩) (.cons (.cint (2) 0 ⟨15,38,15,39⟩) .nil)) 0 ⟨15,32,15,40⟩) (.cons (.tup (.cons (.cstr "->" 0 ⟨15,43,15,47⟩) (.cons (.cint (2) 0 ⟨15,49,15,50⟩) .nil)) 0 ⟨15,42,15,51⟩) (.cons (.tup (.cons (.cstr "\\+" 0 ⟨15,54,15,59⟩) (.cons (.cint (1) 0 ⟨15,61,15,62⟩) .nil)) 0 ⟨15,53,15,63⟩) (.cons (.tup (.cons (.cstr ":-" 0 ⟨15,66,15,70⟩) (.cons (.cint (2) 0 ⟨15,72,15,73⟩) .nil)) 0 ⟨15,65,15,74⟩) (.cons (.tup (.cons (.cstr ":-" 0 ⟨15,77,15,81⟩) (.cons (.cint (1) 0 ⟨15,83,15,84⟩) .nil)) 0 ⟨15,76,15,85⟩) (.cons (.tup (.cons (.cstr "?-" 0 ⟨15,88,15,92⟩) (.cons (.cint (1) 0 ⟨15,94,15,95⟩) .nil)) 0 ⟨15,87,15,96⟩) (.cons (.tup (.cons (.cstr "-->" 0 ⟨15,99,15,104⟩) (.cons (.cint (2) 0 ⟨15,106,15,107⟩) .nil)) 0 ⟨15,98,15,108⟩) (.cons (.tup (.cons (.cstr "{}" 0 ⟨15,111,15,115⟩) (.cons (.cint (1) 0 ⟨15,117,15,118⟩) .nil)) 0 ⟨15,110,15,119⟩) (.cons (.tup (.cons (.cstr "=" 0 ⟨15,122,15,125⟩) (.cons (.cint (2) 0 ⟨15,127,15,128⟩) .nil)) 0 ⟨15,121,15,129⟩) (.cons (.tup (.cons (.cstr "^" 0 ⟨15,132,15,135⟩) (.cons (.cint (2) 0 ⟨15,137,15,138⟩) .nil)) 0 ⟨15,131,15,139⟩) (.cons (.tup (.cons (.cstr "-" 0 ⟨15,142,15,145⟩) (.cons (.cint (1) 0 ⟨15,147,15,148⟩) .nil)) 0 ⟨15,141,15,149⟩) (.cons (.tup (.cons (.cstr "-" 0 ⟨15,152,15,155⟩) (.cons (.cint (2) 0 ⟨15,157,15,158⟩) .nil)) 0 ⟨15,151,15,159⟩) (.cons (.tup (.cons (.cstr "+" 0 ⟨15,162,15,165⟩) (.cons (.cint (2) 0 ⟨15,167,15,168⟩) .nil)) 0 ⟨15,161,15,169⟩) (.cons (.tup (.cons (.cstr "/" 0 ⟨15,172,15,175⟩) (.cons (.cint (2) 0 ⟨15,177,15,178⟩) .nil)) 0 ⟨15,171,15,179⟩) (.cons (.tup (.cons (.cstr "error" 0 ⟨15,182,15,189⟩) (.cons (.cint (2) 0 ⟨15,191,15,192⟩) .nil)) 0 ⟨15,181,15,193⟩) (.cons (.tup (.cons (.cstr "$VAR" 0 ⟨15,196,15,202⟩) (.cons (.cint (1) 0 ⟨15,204,15,205⟩) .nil)) 0 ⟨15,195,15,206⟩) (.cons (.tup (.cons (.cstr "catch" 0 ⟨15,209,15,216⟩) (.cons (.cint (3) 0 ⟨15,218,15,219⟩) .nil)) 0 ⟨15,208,15,220⟩) (.cons (.tup (.cons (.cstr "throw" 0 ⟨15,223,15,230⟩) (.cons (.cint (1) 0 ⟨15,232,15,233⟩) .nil)) 0 ⟨15,222,15,234⟩) (.cons (.tup (.cons (.cstr "!" 0 ⟨15,237,15,240⟩) (.cons (.cint (0) 0 ⟨15,242,15,243⟩) .nil)) 0 ⟨15,236,15,244⟩) (.cons (.tup (.cons (.cstr "true" 0 ⟨15,247,15,253⟩) (.cons (.cint (0) 0 ⟨15,255,15,256⟩) .nil)) 0 ⟨15,246,15,257⟩) (.cons (.tup (.cons (.cstr "fail" 0 ⟨15,260,15,266⟩) (.cons (.cint (0) 0 ⟨15,268,15,269⟩) .nil)) 0 ⟨15,259,15,270⟩) (.cons (.tup (.cons (.cstr "false" 0 ⟨15,273,15,280⟩) (.cons (.cint (0) 0 ⟨15,282,15,283⟩) .nil)) 0 ⟨15,272,15,284⟩) (.cons (.tup (.cons (.cstr "call" 0 ⟨15,287,15,293⟩) (.cons (.cint (1) 0 ⟨15,295,15,296⟩) .nil)) 0 ⟨15,286,15,297⟩) (.cons (.tup (.cons (.cstr "call" 0 ⟨15,300,15,306⟩) (.cons (.cint (2) 0 ⟨15,308,15,309⟩) .nil)) 0 ⟨15,299,15,310⟩) (.cons (.tup (.cons (.cstr "call" 0 ⟨15,313,15,319⟩) (.cons (.cint (3) 0 ⟨15,321,15,322⟩) .nil)) 0 ⟨15,312,15,323⟩) (.cons (.tup (.cons (.cstr "call" 0 ⟨15,326,15,332⟩) (.cons (.cint (4) 0 ⟨15,334,15,335⟩) .nil)) 0 ⟨15,325,15,336⟩) (.cons (.tup (.cons (.cstr "call" 0 ⟨15,339,15,345⟩) (.cons (.cint (5) 0 ⟨15,347,15,348⟩) .nil)) 0 ⟨15,338,15,349⟩) (.cons (.tup (.cons (.cstr "call" 0 ⟨15,352,15,358⟩) (.cons (.cint (6) 0 ⟨15,360,15,361⟩) .nil)) 0 ⟨15,351,15,362⟩) (.cons (.tup (.cons (.cstr "call" 0 ⟨15,365,15,371⟩) (.cons (.cint (7) 0 ⟨15,373,15,374⟩) .nil)) 0 ⟨15,364,15,375⟩) (.cons (.tup (.cons (.cstr "call" 0 ⟨15,378,15,384⟩) (.cons (.cint (8) 0 ⟨15,386,15,387⟩) .nil)) 0 ⟨15,377,15,388⟩) .nil)))))))))))))))))))))))))))))))) 0 ⟨15,11,15,389⟩) ⟨15,4,15,389⟩)
  .nil)
noncomputable def sc1 : Scope := ⟨.function, [], false, false, []⟩
noncomputable def fh1 : FnI := ⟨35, "fixed_functors", Str.ofString "fixed_functors", sc1, ⟨[], [], none, [], [], none, []⟩, [], ns1, 0, []⟩
noncomputable def ns2 : List String := ["self", "text", "row"]
noncomputable def ir2 : Ss := (.cons (.asgA (.loc 0 ⟨19,8,19,12⟩) 0 (.newl ⟨19,21,19,23⟩) ⟨19,8,19,18⟩ ⟨19,8,19,23⟩)
  (.cons (.asgA (.loc 0 ⟨20,8,20,12⟩) 1 (.newd ⟨20,28,20,30⟩) ⟨20,8,20,25⟩ ⟨20,8,20,30⟩)
  (.cons (.asgA (.loc 0 ⟨21,8,21,12⟩) 2 (.newl ⟨21,24,21,26⟩) ⟨21,8,21,21⟩ ⟨21,8,21,26⟩)
  (.cons (.asgA (.loc 0 ⟨22,8,22,12⟩) 3 (.newd ⟨22,31,22,33⟩) ⟨22,8,22,28⟩ ⟨22,8,22,33⟩)
  (.cons (.for_ (.nm 1 ⟨23,12,23,16⟩) .over (.cal 0 .nil ⟨23,20,23,31⟩ ⟨23,20,23,33⟩) (.cons (.exp (.met (.loc 0 ⟨24,12,24,16⟩) 0 (.cons (.loc 1 ⟨24,22,24,26⟩) .nil) ⟨24,12,24,21⟩ ⟨24,12,24,27⟩) ⟨24,12,24,27⟩)
  .nil) ⟨23,8,24,27⟩)
  (.cons (.for_ (.nm 2 ⟨25,12,25,15⟩) .over (.cal 1 .nil ⟨25,19,25,33⟩ ⟨25,19,25,35⟩) (.cons (.exp (.met (.loc 0 ⟨26,12,26,16⟩) 3 (.cons (.idx (.loc 2 ⟨26,22,26,25⟩) (.cint (0) 0 ⟨26,26,26,27⟩) ⟨26,22,26,28⟩) (.cons (.idx (.loc 2 ⟨26,30,26,33⟩) (.cint (1) 0 ⟨26,34,26,35⟩) ⟨26,30,26,36⟩) .nil)) ⟨26,12,26,21⟩ ⟨26,12,26,37⟩) ⟨26,12,26,37⟩)
  .nil) ⟨25,8,26,37⟩)
  .nil))))))
noncomputable def sc2 : Scope := ⟨.function, [(Str.ofString "self", .local), (Str.ofString "text", .local), (Str.ofString "row", .local), (Str.ofString "fixed_atoms", .globalImplicit), (Str.ofString "fixed_functors", .globalImplicit)], false, false, []⟩
noncomputable def fh2 : FnI := ⟨49, "", Str.ofString "Symbols.__init__", sc2, ⟨[], [], none, [], [], none, []⟩, [], ns2, 1, []⟩
noncomputable def ns3 : List String := ["self", "text", "found", "number"]
noncomputable def ir3 : Ss := (.cons (.asg (.nm 2 ⟨29,8,29,13⟩) (.mb (.att (.loc 0 ⟨29,16,29,20⟩) 1 ⟨29,16,29,33⟩) .get (.cons (.loc 1 ⟨29,38,29,42⟩) (.cons (.neg (.cint (1) 0 ⟨29,45,29,46⟩) ⟨29,44,29,46⟩) .nil)) ⟨29,16,29,37⟩ ⟨29,16,29,47⟩) ⟨29,8,29,47⟩)
  (.cons (.iff (.cmp .GtE (.loc 2 ⟨30,11,30,16⟩) (.cint (0) 0 ⟨30,20,30,21⟩) ⟨30,11,30,21⟩) (.cons (.ret (.loc 2 ⟨31,19,31,24⟩) ⟨31,12,31,24⟩)
  .nil) .nil ⟨30,8,31,24⟩)
  (.cons (.asg (.nm 3 ⟨32,8,32,14⟩) (.bi .len (.cons (.att (.loc 0 ⟨32,21,32,25⟩) 0 ⟨32,21,32,31⟩) .nil) ⟨32,17,32,20⟩ ⟨32,17,32,32⟩) ⟨32,8,32,32⟩)
  (.cons (.exp (.mb (.att (.loc 0 ⟨33,8,33,12⟩) 0 ⟨33,8,33,18⟩) .append (.cons (.loc 1 ⟨33,26,33,30⟩) .nil) ⟨33,8,33,25⟩ ⟨33,8,33,31⟩) ⟨33,8,33,31⟩)
  (.cons (.asgI (.att (.loc 0 ⟨34,8,34,12⟩) 1 ⟨34,8,34,25⟩) (.loc 1 ⟨34,26,34,30⟩) (.loc 3 ⟨34,34,34,40⟩) ⟨34,8,34,31⟩ ⟨34,8,34,40⟩)
  (.cons (.ret (.loc 3 ⟨35,15,35,21⟩) ⟨35,8,35,21⟩)
  .nil))))))
noncomputable def sc3 : Scope := ⟨.function, [(Str.ofString "self", .local), (Str.ofString "text", .local), (Str.ofString "found", .local), (Str.ofString "number", .local), (Str.ofString "len", .globalImplicit)], false, false, []⟩
noncomputable def fh3 : FnI := ⟨56, "", Str.ofString "Symbols.atom", sc3, ⟨[], [], none, [], [], none, []⟩, [], ns3, 2, []⟩
noncomputable def ns4 : List String := ["self", "number"]
noncomputable def ir4 : Ss := (.cons (.ret (.idx (.att (.loc 0 ⟨38,15,38,19⟩) 0 ⟨38,15,38,25⟩) (.loc 1 ⟨38,26,38,32⟩) ⟨38,15,38,33⟩) ⟨38,8,38,33⟩)
  .nil)
noncomputable def sc4 : Scope := ⟨.function, [(Str.ofString "self", .local), (Str.ofString "number", .local)], false, false, []⟩
noncomputable def fh4 : FnI := ⟨63, "", Str.ofString "Symbols.text", sc4, ⟨[], [], none, [], [], none, []⟩, [], ns4, 2, []⟩
noncomputable def ns5 : List String := ["self", "atom", "arity", "key", "found", "number"]
noncomputable def ir5 : Ss := (.cons (.asg (.nm 3 ⟨41,8,41,11⟩) (.tup (.cons (.loc 1 ⟨41,15,41,19⟩) (.cons (.loc 2 ⟨41,21,41,26⟩) .nil)) 0 ⟨41,14,41,27⟩) ⟨41,8,41,27⟩)
  (.cons (.asg (.nm 4 ⟨42,8,42,13⟩) (.mb (.att (.loc 0 ⟨42,16,42,20⟩) 3 ⟨42,16,42,36⟩) .get (.cons (.loc 3 ⟨42,41,42,44⟩) (.cons (.neg (.cint (1) 0 ⟨42,47,42,48⟩) ⟨42,46,42,48⟩) .nil)) ⟨42,16,42,40⟩ ⟨42,16,42,49⟩) ⟨42,8,42,49⟩)
  (.cons (.iff (.cmp .GtE (.loc 4 ⟨43,11,43,16⟩) (.cint (0) 0 ⟨43,20,43,21⟩) ⟨43,11,43,21⟩) (.cons (.ret (.loc 4 ⟨44,19,44,24⟩) ⟨44,12,44,24⟩)
  .nil) .nil ⟨43,8,44,24⟩)
  (.cons (.asg (.nm 5 ⟨45,8,45,14⟩) (.bi .len (.cons (.att (.loc 0 ⟨45,21,45,25⟩) 2 ⟨45,21,45,34⟩) .nil) ⟨45,17,45,20⟩ ⟨45,17,45,35⟩) ⟨45,8,45,35⟩)
  (.cons (.exp (.mb (.att (.loc 0 ⟨46,8,46,12⟩) 2 ⟨46,8,46,21⟩) .append (.cons (.loc 3 ⟨46,29,46,32⟩) .nil) ⟨46,8,46,28⟩ ⟨46,8,46,33⟩) ⟨46,8,46,33⟩)
  (.cons (.asgI (.att (.loc 0 ⟨47,8,47,12⟩) 3 ⟨47,8,47,28⟩) (.loc 3 ⟨47,29,47,32⟩) (.loc 5 ⟨47,36,47,42⟩) ⟨47,8,47,33⟩ ⟨47,8,47,42⟩)
  (.cons (.ret (.loc 5 ⟨48,15,48,21⟩) ⟨48,8,48,21⟩)
  .nil)))))))
noncomputable def sc5 : Scope := ⟨.function, [(Str.ofString "self", .local), (Str.ofString "atom", .local), (Str.ofString "arity", .local), (Str.ofString "key", .local), (Str.ofString "found", .local), (Str.ofString "number", .local), (Str.ofString "len", .globalImplicit)], false, false, []⟩
noncomputable def fh5 : FnI := ⟨70, "", Str.ofString "Symbols.functor", sc5, ⟨[], [], none, [], [], none, []⟩, [], ns5, 3, []⟩
noncomputable def ns6 : List String := ["self", "text", "arity"]
noncomputable def ir6 : Ss := (.cons (.ret (.met (.loc 0 ⟨51,15,51,19⟩) 2 (.cons (.met (.loc 0 ⟨51,28,51,32⟩) 0 (.cons (.loc 1 ⟨51,38,51,42⟩) .nil) ⟨51,28,51,37⟩ ⟨51,28,51,43⟩) (.cons (.loc 2 ⟨51,45,51,50⟩) .nil)) ⟨51,15,51,27⟩ ⟨51,15,51,51⟩) ⟨51,8,51,51⟩)
  .nil)
noncomputable def sc6 : Scope := ⟨.function, [(Str.ofString "self", .local), (Str.ofString "text", .local), (Str.ofString "arity", .local)], false, false, []⟩
noncomputable def fh6 : FnI := ⟨77, "", Str.ofString "Symbols.func", sc6, ⟨[], [], none, [], [], none, []⟩, [], ns6, 3, []⟩
noncomputable def ns7 : List String := ["self", "functor"]
noncomputable def ir7 : Ss := (.cons (.ret (.idx (.idx (.att (.loc 0 ⟨54,15,54,19⟩) 2 ⟨54,15,54,28⟩) (.loc 1 ⟨54,29,54,36⟩) ⟨54,15,54,37⟩) (.cint (0) 0 ⟨54,38,54,39⟩) ⟨54,15,54,40⟩) ⟨54,8,54,40⟩)
  .nil)
noncomputable def sc7 : Scope := ⟨.function, [(Str.ofString "self", .local), (Str.ofString "functor", .local)], false, false, []⟩
noncomputable def fh7 : FnI := ⟨84, "", Str.ofString "Symbols.name", sc7, ⟨[], [], none, [], [], none, []⟩, [], ns7, 2, []⟩
noncomputable def ns8 : List String := ["self", "functor"]
noncomputable def ir8 : Ss := (.cons (.ret (.idx (.idx (.att (.loc 0 ⟨57,15,57,19⟩) 2 ⟨57,15,57,28⟩) (.loc 1 ⟨57,29,57,36⟩) ⟨57,15,57,37⟩) (.cint (1) 0 ⟨57,38,57,39⟩) ⟨57,15,57,40⟩) ⟨57,8,57,40⟩)
  .nil)
noncomputable def sc8 : Scope := ⟨.function, [(Str.ofString "self", .local), (Str.ofString "functor", .local)], false, false, []⟩
noncomputable def fh8 : FnI := ⟨91, "", Str.ofString "Symbols.arity", sc8, ⟨[], [], none, [], [], none, []⟩, [], ns8, 2, []⟩
noncomputable def ns9 : List String := ["term", "items"]
noncomputable def ir9 : Ss := (.cons (.ownN 1 ⟨72,4,72,9⟩ ⟨72,12,72,14⟩ ⟨72,4,72,14⟩)
  (.cons (.whl (.bool .And (.cons (.cmp .Eq (.idx (.loc 0 ⟨73,10,73,14⟩) (.cint (0) 0 ⟨73,15,73,16⟩) ⟨73,10,73,17⟩) (.cstr "s" 0 ⟨73,21,73,24⟩) ⟨73,10,73,24⟩) (.cons (.cmp .Eq (.idx (.loc 0 ⟨73,29,73,33⟩) (.cint (1) 0 ⟨73,34,73,35⟩) ⟨73,29,73,36⟩) (.gv 4 ⟨73,40,73,45⟩) ⟨73,29,73,45⟩) .nil)) ⟨73,10,73,45⟩) (.cons (.ownA 1 (.idx (.idx (.loc 0 ⟨74,21,74,25⟩) (.cint (2) 0 ⟨74,26,74,27⟩) ⟨74,21,74,28⟩) (.cint (0) 0 ⟨74,29,74,30⟩) ⟨74,21,74,31⟩) ⟨74,8,74,13⟩ ⟨74,8,74,20⟩ ⟨74,8,74,32⟩ ⟨74,8,74,32⟩)
  (.cons (.asg (.nm 0 ⟨75,8,75,12⟩) (.idx (.idx (.loc 0 ⟨75,15,75,19⟩) (.cint (2) 0 ⟨75,20,75,21⟩) ⟨75,15,75,22⟩) (.cint (1) 0 ⟨75,23,75,24⟩) ⟨75,15,75,25⟩) ⟨75,8,75,25⟩)
  .nil)) ⟨73,4,75,25⟩)
  (.cons (.frz 1)
  (.cons (.ret (.tup (.cons (.loc 1 ⟨76,12,76,17⟩) (.cons (.loc 0 ⟨76,19,76,23⟩) .nil)) 0 ⟨76,11,76,24⟩) ⟨76,4,76,24⟩)
  .nil))))
noncomputable def sc9 : Scope := ⟨.function, [(Str.ofString "term", .local), (Str.ofString "items", .local), (Str.ofString "F_DOT", .globalImplicit)], false, false, []⟩
noncomputable def fh9 : FnI := ⟨133, "list_items", Str.ofString "list_items", sc9, ⟨[], [], none, [], [], none, []⟩, [], ns9, 1, []⟩
noncomputable def ns10 : List String := ["code"]
noncomputable def ir10 : Ss := (.cons (.ret (.bool .And (.cons (.cmp .LtE (.cint (48) 0 ⟨79,11,79,13⟩) (.loc 0 ⟨79,17,79,21⟩) ⟨79,11,79,21⟩) (.cons (.cmp .LtE (.loc 0 ⟨79,26,79,30⟩) (.cint (57) 0 ⟨79,34,79,36⟩) ⟨79,26,79,36⟩) .nil)) ⟨79,11,79,36⟩) ⟨79,4,79,36⟩)
  .nil)
noncomputable def sc10 : Scope := ⟨.function, [(Str.ofString "code", .local)], false, false, []⟩
noncomputable def fh10 : FnI := ⟨140, "is_digit", Str.ofString "is_digit", sc10, ⟨[], [], none, [], [], none, []⟩, [], ns10, 1, []⟩
noncomputable def ns11 : List String := ["code"]
noncomputable def ir11 : Ss := (.cons (.ret (.bool .And (.cons (.cmp .LtE (.cint (97) 0 ⟨81,11,81,13⟩) (.loc 0 ⟨81,17,81,21⟩) ⟨81,11,81,21⟩) (.cons (.cmp .LtE (.loc 0 ⟨81,26,81,30⟩) (.cint (122) 0 ⟨81,34,81,37⟩) ⟨81,26,81,37⟩) .nil)) ⟨81,11,81,37⟩) ⟨81,4,81,37⟩)
  .nil)
noncomputable def sc11 : Scope := ⟨.function, [(Str.ofString "code", .local)], false, false, []⟩
noncomputable def fh11 : FnI := ⟨147, "is_small", Str.ofString "is_small", sc11, ⟨[], [], none, [], [], none, []⟩, [], ns11, 1, []⟩
noncomputable def ns12 : List String := ["code"]
noncomputable def ir12 : Ss := (.cons (.ret (.bool .And (.cons (.cmp .LtE (.cint (65) 0 ⟨83,11,83,13⟩) (.loc 0 ⟨83,17,83,21⟩) ⟨83,11,83,21⟩) (.cons (.cmp .LtE (.loc 0 ⟨83,26,83,30⟩) (.cint (90) 0 ⟨83,34,83,36⟩) ⟨83,26,83,36⟩) .nil)) ⟨83,11,83,36⟩) ⟨83,4,83,36⟩)
  .nil)
noncomputable def sc12 : Scope := ⟨.function, [(Str.ofString "code", .local)], false, false, []⟩
noncomputable def fh12 : FnI := ⟨154, "is_capital", Str.ofString "is_capital", sc12, ⟨[], [], none, [], [], none, []⟩, [], ns12, 1, []⟩
noncomputable def ns13 : List String := ["code"]
noncomputable def ir13 : Ss := (.cons (.ret (.bool .Or (.cons (.cal 11 (.cons (.loc 0 ⟨85,20,85,24⟩) .nil) ⟨85,11,85,19⟩ ⟨85,11,85,25⟩) (.cons (.cal 12 (.cons (.loc 0 ⟨85,40,85,44⟩) .nil) ⟨85,29,85,39⟩ ⟨85,29,85,45⟩) (.cons (.cal 10 (.cons (.loc 0 ⟨85,58,85,62⟩) .nil) ⟨85,49,85,57⟩ ⟨85,49,85,63⟩) (.cons (.cmp .Eq (.loc 0 ⟨85,68,85,72⟩) (.cint (95) 0 ⟨85,76,85,78⟩) ⟨85,68,85,78⟩) .nil)))) ⟨85,11,85,79⟩) ⟨85,4,85,79⟩)
  .nil)
noncomputable def sc13 : Scope := ⟨.function, [(Str.ofString "code", .local), (Str.ofString "is_small", .globalImplicit), (Str.ofString "is_capital", .globalImplicit), (Str.ofString "is_digit", .globalImplicit)], false, false, []⟩
noncomputable def fh13 : FnI := ⟨161, "is_alnum", Str.ofString "is_alnum", sc13, ⟨[], [], none, [], [], none, []⟩, [], ns13, 1, []⟩
noncomputable def ns14 : List String := ["code"]
noncomputable def ir14 : Ss := (.cons (.ret (.bool .And (.cons (.cmp .LtE (.cint (0) 0 ⟨87,11,87,12⟩) (.loc 0 ⟨87,16,87,20⟩) ⟨87,11,87,20⟩) (.cons (.cmp .Lt (.loc 0 ⟨87,25,87,29⟩) (.cint (128) 0 ⟨87,32,87,35⟩) ⟨87,25,87,35⟩) (.cons (.cmp .In (.bi .chr (.cons (.loc 0 ⟨87,45,87,49⟩) .nil) ⟨87,41,87,44⟩ ⟨87,41,87,50⟩) (.cstr "+-*/\\^<>=~:.?@#&$" 0 ⟨87,54,87,74⟩) ⟨87,41,87,74⟩) .nil))) ⟨87,11,87,75⟩) ⟨87,4,87,75⟩)
  .nil)
noncomputable def sc14 : Scope := ⟨.function, [(Str.ofString "code", .local), (Str.ofString "chr", .globalImplicit)], false, false, []⟩
noncomputable def fh14 : FnI := ⟨168, "is_symbol", Str.ofString "is_symbol", sc14, ⟨[], [], none, [], [], none, []⟩, [], ns14, 1, []⟩
noncomputable def ns15 : List String := ["text", "char"]
noncomputable def ir15 : Ss := (.cons (.iff (.bool .Or (.cons (.cmp .Eq (.loc 0 ⟨99,7,99,11⟩) (.cstr "" 0 ⟨99,15,99,17⟩) ⟨99,7,99,17⟩) (.cons (.not (.cal 11 (.cons (.bi .ord (.cons (.idx (.loc 0 ⟨99,38,99,42⟩) (.cint (0) 0 ⟨99,43,99,44⟩) ⟨99,38,99,45⟩) .nil) ⟨99,34,99,37⟩ ⟨99,34,99,46⟩) .nil) ⟨99,25,99,33⟩ ⟨99,25,99,47⟩) ⟨99,21,99,47⟩) .nil)) ⟨99,7,99,47⟩) (.cons (.ret (.cboo false 0 ⟨100,15,100,20⟩) ⟨100,8,100,20⟩)
  .nil) .nil ⟨99,4,100,20⟩)
  (.cons (.for_ (.nm 1 ⟨101,8,101,12⟩) .over (.loc 0 ⟨101,16,101,20⟩) (.cons (.iff (.not (.cal 13 (.cons (.bi .ord (.cons (.loc 1 ⟨102,28,102,32⟩) .nil) ⟨102,24,102,27⟩ ⟨102,24,102,33⟩) .nil) ⟨102,15,102,23⟩ ⟨102,15,102,34⟩) ⟨102,11,102,34⟩) (.cons (.ret (.cboo false 0 ⟨103,19,103,24⟩) ⟨103,12,103,24⟩)
  .nil) .nil ⟨102,8,103,24⟩)
  .nil) ⟨101,4,103,24⟩)
  (.cons (.ret (.cboo true 0 ⟨104,11,104,15⟩) ⟨104,4,104,15⟩)
  .nil)))
noncomputable def sc15 : Scope := ⟨.function, [(Str.ofString "text", .local), (Str.ofString "char", .local), (Str.ofString "is_small", .globalImplicit), (Str.ofString "ord", .globalImplicit), (Str.ofString "is_alnum", .globalImplicit)], false, false, []⟩
noncomputable def fh15 : FnI := ⟨182, "is_alnum_name", Str.ofString "is_alnum_name", sc15, ⟨[], [], none, [], [], none, []⟩, [], ns15, 1, []⟩
noncomputable def ns16 : List String := ["text", "char"]
noncomputable def ir16 : Ss := (.cons (.iff (.cmp .Eq (.loc 0 ⟨106,7,106,11⟩) (.cstr "" 0 ⟨106,15,106,17⟩) ⟨106,7,106,17⟩) (.cons (.ret (.cboo false 0 ⟨107,15,107,20⟩) ⟨107,8,107,20⟩)
  .nil) .nil ⟨106,4,107,20⟩)
  (.cons (.for_ (.nm 1 ⟨108,8,108,12⟩) .over (.loc 0 ⟨108,16,108,20⟩) (.cons (.iff (.not (.cal 14 (.cons (.bi .ord (.cons (.loc 1 ⟨109,29,109,33⟩) .nil) ⟨109,25,109,28⟩ ⟨109,25,109,34⟩) .nil) ⟨109,15,109,24⟩ ⟨109,15,109,35⟩) ⟨109,11,109,35⟩) (.cons (.ret (.cboo false 0 ⟨110,19,110,24⟩) ⟨110,12,110,24⟩)
  .nil) .nil ⟨109,8,110,24⟩)
  .nil) ⟨108,4,110,24⟩)
  (.cons (.ret (.cboo true 0 ⟨111,11,111,15⟩) ⟨111,4,111,15⟩)
  .nil)))
noncomputable def sc16 : Scope := ⟨.function, [(Str.ofString "text", .local), (Str.ofString "char", .local), (Str.ofString "is_symbol", .globalImplicit), (Str.ofString "ord", .globalImplicit)], false, false, []⟩
noncomputable def fh16 : FnI := ⟨189, "is_symbol_name", Str.ofString "is_symbol_name", sc16, ⟨[], [], none, [], [], none, []⟩, [], ns16, 1, []⟩
noncomputable def ns17 : List String := ["text"]
noncomputable def ir17 : Ss := (.cons (.iff (.cmp .In (.loc 0 ⟨113,7,113,11⟩) (.tup (.cons (.cstr "[]" 0 ⟨113,16,113,20⟩) (.cons (.cstr "{}" 0 ⟨113,22,113,26⟩) (.cons (.cstr "!" 0 ⟨113,28,113,31⟩) (.cons (.cstr ";" 0 ⟨113,33,113,36⟩) .nil)))) 0 ⟨113,15,113,37⟩) ⟨113,7,113,37⟩) (.cons (.ret (.cboo true 0 ⟨114,15,114,19⟩) ⟨114,8,114,19⟩)
  .nil) .nil ⟨113,4,114,19⟩)
  (.cons (.iff (.cal 15 (.cons (.loc 0 ⟨115,21,115,25⟩) .nil) ⟨115,7,115,20⟩ ⟨115,7,115,26⟩) (.cons (.ret (.cboo true 0 ⟨116,15,116,19⟩) ⟨116,8,116,19⟩)
  .nil) .nil ⟨115,4,116,19⟩)
  (.cons (.ret (.bool .And (.cons (.cal 16 (.cons (.loc 0 ⟨117,26,117,30⟩) .nil) ⟨117,11,117,25⟩ ⟨117,11,117,31⟩) (.cons (.cmp .NotEq (.loc 0 ⟨117,36,117,40⟩) (.cstr "." 0 ⟨117,44,117,47⟩) ⟨117,36,117,47⟩) (.cons (.not (.mb (.loc 0 ⟨117,57,117,61⟩) .startswith (.cons (.cstr "/*" 0 ⟨117,73,117,77⟩) .nil) ⟨117,57,117,72⟩ ⟨117,57,117,78⟩) ⟨117,53,117,78⟩) .nil))) ⟨117,11,117,79⟩) ⟨117,4,117,79⟩)
  .nil)))
noncomputable def sc17 : Scope := ⟨.function, [(Str.ofString "text", .local), (Str.ofString "is_alnum_name", .globalImplicit), (Str.ofString "is_symbol_name", .globalImplicit)], false, false, []⟩
noncomputable def fh17 : FnI := ⟨196, "is_plain_name", Str.ofString "is_plain_name", sc17, ⟨[], [], none, [], [], none, []⟩, [], ns17, 1, []⟩
noncomputable def ns18 : List String := ["type_text"]
noncomputable def ir18 : Ss := (.cons (.iff (.cmp .In (.loc 0 ⟨126,7,126,16⟩) (.gv 8 ⟨126,20,126,32⟩) ⟨126,7,126,32⟩) (.cons (.ret (.cstr "prefix" 0 ⟨127,15,127,23⟩) ⟨127,8,127,23⟩)
  .nil) .nil ⟨126,4,127,23⟩)
  (.cons (.iff (.cmp .In (.loc 0 ⟨128,7,128,16⟩) (.gv 9 ⟨128,20,128,31⟩) ⟨128,7,128,31⟩) (.cons (.ret (.cstr "infix" 0 ⟨129,15,129,22⟩) ⟨129,8,129,22⟩)
  .nil) .nil ⟨128,4,129,22⟩)
  (.cons (.iff (.cmp .In (.loc 0 ⟨130,7,130,16⟩) (.gv 10 ⟨130,20,130,33⟩) ⟨130,7,130,33⟩) (.cons (.ret (.cstr "postfix" 0 ⟨131,15,131,24⟩) ⟨131,8,131,24⟩)
  .nil) .nil ⟨130,4,131,24⟩)
  (.cons (.ret (.cnon 0 ⟨132,11,132,15⟩) ⟨132,4,132,15⟩)
  .nil))))
noncomputable def sc18 : Scope := ⟨.function, [(Str.ofString "type_text", .local), (Str.ofString "PREFIX_TYPES", .globalImplicit), (Str.ofString "INFIX_TYPES", .globalImplicit), (Str.ofString "POSTFIX_TYPES", .globalImplicit)], false, false, []⟩
noncomputable def fh18 : FnI := ⟨213, "fixity", Str.ofString "fixity", sc18, ⟨[], [], none, [], [], none, []⟩, [], ns18, 1, []⟩
noncomputable def ns19 : List String := ["priority", "type_text", "lower"]
noncomputable def ir19 : Ss := (.cons (.asg (.nm 2 ⟨134,4,134,9⟩) (.bin .sub (.loc 0 ⟨134,12,134,20⟩) (.cint (1) 0 ⟨134,23,134,24⟩) ⟨134,12,134,24⟩) ⟨134,4,134,24⟩)
  (.cons (.iff (.cmp .Eq (.loc 1 ⟨135,7,135,16⟩) (.cstr "fx" 0 ⟨135,20,135,24⟩) ⟨135,7,135,24⟩) (.cons (.ret (.tup (.cons (.cint (0) 0 ⟨136,16,136,17⟩) (.cons (.loc 2 ⟨136,19,136,24⟩) .nil)) 0 ⟨136,15,136,25⟩) ⟨136,8,136,25⟩)
  .nil) .nil ⟨135,4,136,25⟩)
  (.cons (.iff (.cmp .Eq (.loc 1 ⟨137,7,137,16⟩) (.cstr "fy" 0 ⟨137,20,137,24⟩) ⟨137,7,137,24⟩) (.cons (.ret (.tup (.cons (.cint (0) 0 ⟨138,16,138,17⟩) (.cons (.loc 0 ⟨138,19,138,27⟩) .nil)) 0 ⟨138,15,138,28⟩) ⟨138,8,138,28⟩)
  .nil) .nil ⟨137,4,138,28⟩)
  (.cons (.iff (.cmp .Eq (.loc 1 ⟨139,7,139,16⟩) (.cstr "xf" 0 ⟨139,20,139,24⟩) ⟨139,7,139,24⟩) (.cons (.ret (.tup (.cons (.loc 2 ⟨140,16,140,21⟩) (.cons (.cint (0) 0 ⟨140,23,140,24⟩) .nil)) 0 ⟨140,15,140,25⟩) ⟨140,8,140,25⟩)
  .nil) .nil ⟨139,4,140,25⟩)
  (.cons (.iff (.cmp .Eq (.loc 1 ⟨141,7,141,16⟩) (.cstr "yf" 0 ⟨141,20,141,24⟩) ⟨141,7,141,24⟩) (.cons (.ret (.tup (.cons (.loc 0 ⟨142,16,142,24⟩) (.cons (.cint (0) 0 ⟨142,26,142,27⟩) .nil)) 0 ⟨142,15,142,28⟩) ⟨142,8,142,28⟩)
  .nil) .nil ⟨141,4,142,28⟩)
  (.cons (.iff (.cmp .Eq (.loc 1 ⟨143,7,143,16⟩) (.cstr "xfy" 0 ⟨143,20,143,25⟩) ⟨143,7,143,25⟩) (.cons (.ret (.tup (.cons (.loc 2 ⟨144,16,144,21⟩) (.cons (.loc 0 ⟨144,23,144,31⟩) .nil)) 0 ⟨144,15,144,32⟩) ⟨144,8,144,32⟩)
  .nil) .nil ⟨143,4,144,32⟩)
  (.cons (.iff (.cmp .Eq (.loc 1 ⟨145,7,145,16⟩) (.cstr "yfx" 0 ⟨145,20,145,25⟩) ⟨145,7,145,25⟩) (.cons (.ret (.tup (.cons (.loc 0 ⟨146,16,146,24⟩) (.cons (.loc 2 ⟨146,26,146,31⟩) .nil)) 0 ⟨146,15,146,32⟩) ⟨146,8,146,32⟩)
  .nil) .nil ⟨145,4,146,32⟩)
  (.cons (.ret (.tup (.cons (.loc 2 ⟨147,12,147,17⟩) (.cons (.loc 2 ⟨147,19,147,24⟩) .nil)) 0 ⟨147,11,147,25⟩) ⟨147,4,147,25⟩)
  .nil))))))))
noncomputable def sc19 : Scope := ⟨.function, [(Str.ofString "priority", .local), (Str.ofString "type_text", .local), (Str.ofString "lower", .local)], false, false, []⟩
noncomputable def fh19 : FnI := ⟨220, "bounds", Str.ofString "bounds", sc19, ⟨[], [], none, [], [], none, []⟩, [], ns19, 2, []⟩
noncomputable def ns20 : List String := ["self", "symbols", "standard", "priority", "type_text", "names", "name"]
noncomputable def ir20 : Ss := (.cons (.asgA (.loc 0 ⟨151,8,151,12⟩) 4 (.loc 1 ⟨151,23,151,30⟩) ⟨151,8,151,20⟩ ⟨151,8,151,30⟩)
  (.cons (.asgA (.loc 0 ⟨152,8,152,12⟩) 5 (.newd ⟨152,24,152,26⟩) ⟨152,8,152,21⟩ ⟨152,8,152,26⟩)
  (.cons (.asgA (.loc 0 ⟨153,8,153,12⟩) 6 (.newd ⟨153,23,153,25⟩) ⟨153,8,153,20⟩ ⟨153,8,153,25⟩)
  (.cons (.asgA (.loc 0 ⟨154,8,154,12⟩) 7 (.newd ⟨154,25,154,27⟩) ⟨154,8,154,22⟩ ⟨154,8,154,27⟩)
  (.cons (.exp (.met (.loc 0 ⟨155,8,155,12⟩) 11 (.cons (.gv 7 ⟨155,17,155,31⟩) (.cons (.cstr "xfy" 0 ⟨155,33,155,38⟩) (.cons (.gv 2 ⟨155,40,155,47⟩) .nil))) ⟨155,8,155,16⟩ ⟨155,8,155,48⟩) ⟨155,8,155,48⟩)
  (.cons (.iff (.loc 2 ⟨156,11,156,19⟩) (.cons (.bad (.For (.Tuple [(.Name (Str.ofString "priority") ⟨157,16,157,24⟩), (.Name (Str.ofString "type_text") ⟨157,26,157,35⟩), (.Name (Str.ofString "names") ⟨157,37,157,42⟩)] 0 ⟨157,16,157,42⟩) (.Call (.Name (Str.ofString "standard_rows") ⟨157,46,157,59⟩) [] [] ⟨157,46,157,61⟩) [(.For (.Name (Str.ofString "name") ⟨158,20,158,24⟩) (.Name (Str.ofString "names") ⟨158,28,158,33⟩) [(.Expr (.Call (.Attribute (.Name (Str.ofString "self") ⟨159,20,159,24⟩) (Str.ofString "add") ⟨159,20,159,28⟩) [(.Name (Str.ofString "priority") ⟨159,29,159,37⟩), (.Name (Str.ofString "type_text") ⟨159,39,159,48⟩), (.Call (.Attribute (.Name (Str.ofString "symbols") ⟨159,50,159,57⟩) (Str.ofString "atom") ⟨159,50,159,62⟩) [(.Name (Str.ofString "name") ⟨159,63,159,67⟩)] [] ⟨159,50,159,68⟩)] [] ⟨159,20,159,69⟩) ⟨159,20,159,69⟩)] [] ⟨158,16,159,69⟩)] [] ⟨157,12,159,69⟩))
  .nil) .nil ⟨156,8,159,69⟩)
  .nil))))))
noncomputable def sc20 : Scope := ⟨.function, [(Str.ofString "self", .local), (Str.ofString "symbols", .local), (Str.ofString "standard", .local), (Str.ofString "priority", .local), (Str.ofString "type_text", .local), (Str.ofString "names", .local), (Str.ofString "name", .local), (Str.ofString "COMMA_PRIORITY", .globalImplicit), (Str.ofString "A_COMMA", .globalImplicit), (Str.ofString "standard_rows", .globalImplicit)], false, false, []⟩
noncomputable def fh20 : FnI := ⟨235, "", Str.ofString "OperatorTable.__init__", sc20, ⟨[], [], none, [], [], none, []⟩, [], ns20, 3, [(.boo true)]⟩
noncomputable def ns21 : List String := ["self", "a"]
noncomputable def ir21 : Ss := (.cons (.ret (.mb (.att (.loc 0 ⟨162,15,162,19⟩) 5 ⟨162,15,162,28⟩) .get (.cons (.loc 1 ⟨162,33,162,34⟩) .nil) ⟨162,15,162,32⟩ ⟨162,15,162,35⟩) ⟨162,8,162,35⟩)
  .nil)
noncomputable def sc21 : Scope := ⟨.function, [(Str.ofString "self", .local), (Str.ofString "a", .local)], false, false, []⟩
noncomputable def fh21 : FnI := ⟨242, "", Str.ofString "OperatorTable.prefix", sc21, ⟨[], [], none, [], [], none, []⟩, [], ns21, 2, []⟩
noncomputable def ns22 : List String := ["self", "a"]
noncomputable def ir22 : Ss := (.cons (.ret (.mb (.att (.loc 0 ⟨165,15,165,19⟩) 6 ⟨165,15,165,27⟩) .get (.cons (.loc 1 ⟨165,32,165,33⟩) .nil) ⟨165,15,165,31⟩ ⟨165,15,165,34⟩) ⟨165,8,165,34⟩)
  .nil)
noncomputable def sc22 : Scope := ⟨.function, [(Str.ofString "self", .local), (Str.ofString "a", .local)], false, false, []⟩
noncomputable def fh22 : FnI := ⟨249, "", Str.ofString "OperatorTable.infix", sc22, ⟨[], [], none, [], [], none, []⟩, [], ns22, 2, []⟩
noncomputable def ns23 : List String := ["self", "a"]
noncomputable def ir23 : Ss := (.cons (.ret (.mb (.att (.loc 0 ⟨168,15,168,19⟩) 7 ⟨168,15,168,29⟩) .get (.cons (.loc 1 ⟨168,34,168,35⟩) .nil) ⟨168,15,168,33⟩ ⟨168,15,168,36⟩) ⟨168,8,168,36⟩)
  .nil)
noncomputable def sc23 : Scope := ⟨.function, [(Str.ofString "self", .local), (Str.ofString "a", .local)], false, false, []⟩
noncomputable def fh23 : FnI := ⟨256, "", Str.ofString "OperatorTable.postfix", sc23, ⟨[], [], none, [], [], none, []⟩, [], ns23, 2, []⟩
noncomputable def ns24 : List String := ["self", "a"]
noncomputable def ir24 : Ss := (.cons (.ret (.bool .Or (.cons (.cmp .In (.loc 1 ⟨171,15,171,16⟩) (.att (.loc 0 ⟨171,20,171,24⟩) 5 ⟨171,20,171,33⟩) ⟨171,15,171,33⟩) (.cons (.cmp .In (.loc 1 ⟨171,37,171,38⟩) (.att (.loc 0 ⟨171,42,171,46⟩) 6 ⟨171,42,171,54⟩) ⟨171,37,171,54⟩) (.cons (.cmp .In (.loc 1 ⟨171,58,171,59⟩) (.att (.loc 0 ⟨171,63,171,67⟩) 7 ⟨171,63,171,77⟩) ⟨171,58,171,77⟩) .nil))) ⟨171,15,171,77⟩) ⟨171,8,171,77⟩)
  .nil)
noncomputable def sc24 : Scope := ⟨.function, [(Str.ofString "self", .local), (Str.ofString "a", .local)], false, false, []⟩
noncomputable def fh24 : FnI := ⟨263, "", Str.ofString "OperatorTable.is_operator", sc24, ⟨[], [], none, [], [], none, []⟩, [], ns24, 2, []⟩
noncomputable def ns25 : List String := ["self", "type_text", "kind"]
noncomputable def ir25 : Ss := (.cons (.asg (.nm 2 ⟨174,8,174,12⟩) (.cal 18 (.cons (.loc 1 ⟨174,22,174,31⟩) .nil) ⟨174,15,174,21⟩ ⟨174,15,174,32⟩) ⟨174,8,174,32⟩)
  (.cons (.iff (.cmp .Eq (.loc 2 ⟨175,11,175,15⟩) (.cstr "prefix" 0 ⟨175,19,175,27⟩) ⟨175,11,175,27⟩) (.cons (.ret (.att (.loc 0 ⟨176,19,176,23⟩) 5 ⟨176,19,176,32⟩) ⟨176,12,176,32⟩)
  .nil) .nil ⟨175,8,176,32⟩)
  (.cons (.iff (.cmp .Eq (.loc 2 ⟨177,11,177,15⟩) (.cstr "infix" 0 ⟨177,19,177,26⟩) ⟨177,11,177,26⟩) (.cons (.ret (.att (.loc 0 ⟨178,19,178,23⟩) 6 ⟨178,19,178,31⟩) ⟨178,12,178,31⟩)
  .nil) .nil ⟨177,8,178,31⟩)
  (.cons (.ret (.att (.loc 0 ⟨179,15,179,19⟩) 7 ⟨179,15,179,29⟩) ⟨179,8,179,29⟩)
  .nil))))
noncomputable def sc25 : Scope := ⟨.function, [(Str.ofString "self", .local), (Str.ofString "type_text", .local), (Str.ofString "kind", .local), (Str.ofString "fixity", .globalImplicit)], false, false, []⟩
noncomputable def fh25 : FnI := ⟨270, "", Str.ofString "OperatorTable.table_of", sc25, ⟨[], [], none, [], [], none, []⟩, [], ns25, 2, []⟩
noncomputable def ns26 : List String := ["self", "priority", "type_text", "a", "table"]
noncomputable def ir26 : Ss := (.cons (.asg (.nm 4 ⟨182,8,182,13⟩) (.met (.loc 0 ⟨182,16,182,20⟩) 10 (.cons (.loc 2 ⟨182,30,182,39⟩) .nil) ⟨182,16,182,29⟩ ⟨182,16,182,40⟩) ⟨182,8,182,40⟩)
  (.cons (.iff (.cmp .Gt (.loc 1 ⟨183,11,183,19⟩) (.cint (0) 0 ⟨183,22,183,23⟩) ⟨183,11,183,23⟩) (.cons (.asgI (.loc 4 ⟨184,12,184,17⟩) (.loc 3 ⟨184,18,184,19⟩) (.tup (.cons (.loc 1 ⟨184,24,184,32⟩) (.cons (.loc 2 ⟨184,34,184,43⟩) .nil)) 0 ⟨184,23,184,44⟩) ⟨184,12,184,20⟩ ⟨184,12,184,44⟩)
  .nil) (.cons (.iff (.cmp .In (.loc 3 ⟨185,13,185,14⟩) (.loc 4 ⟨185,18,185,23⟩) ⟨185,13,185,23⟩) (.cons (.delI (.loc 4 ⟨186,16,186,21⟩) (.loc 3 ⟨186,22,186,23⟩) ⟨186,16,186,24⟩ ⟨186,12,186,24⟩)
  .nil) .nil ⟨185,8,186,24⟩)
  .nil) ⟨183,8,186,24⟩)
  .nil))
noncomputable def sc26 : Scope := ⟨.function, [(Str.ofString "self", .local), (Str.ofString "priority", .local), (Str.ofString "type_text", .local), (Str.ofString "a", .local), (Str.ofString "table", .local)], false, false, []⟩
noncomputable def fh26 : FnI := ⟨277, "", Str.ofString "OperatorTable.add", sc26, ⟨[], [], none, [], [], none, []⟩, [], ns26, 4, []⟩
noncomputable def ns27 : List String := ["symbols", "a", "quoted", "text"]
noncomputable def ir27 : Ss := (.cons (.asg (.nm 3 ⟨213,4,213,8⟩) (.met (.loc 0 ⟨213,11,213,18⟩) 1 (.cons (.loc 1 ⟨213,24,213,25⟩) .nil) ⟨213,11,213,23⟩ ⟨213,11,213,26⟩) ⟨213,4,213,26⟩)
  (.cons (.iff (.bool .And (.cons (.loc 2 ⟨214,7,214,13⟩) (.cons (.not (.cal 17 (.cons (.loc 3 ⟨214,37,214,41⟩) .nil) ⟨214,23,214,36⟩ ⟨214,23,214,42⟩) ⟨214,19,214,42⟩) .nil)) ⟨214,7,214,43⟩) (.cons (.bad (.Return (some (.Call (.Name (Str.ofString "quoted_text") ⟨215,15,215,26⟩) [(.Name (Str.ofString "text") ⟨215,27,215,31⟩)] [] ⟨215,15,215,32⟩)) ⟨215,8,215,32⟩))
  .nil) .nil ⟨214,4,215,32⟩)
  (.cons (.ret (.loc 3 ⟨216,11,216,15⟩) ⟨216,4,216,15⟩)
  .nil)))
noncomputable def sc27 : Scope := ⟨.function, [(Str.ofString "symbols", .local), (Str.ofString "a", .local), (Str.ofString "quoted", .local), (Str.ofString "text", .local), (Str.ofString "is_plain_name", .globalImplicit), (Str.ofString "quoted_text", .globalImplicit)], false, false, []⟩
noncomputable def fh27 : FnI := ⟨313, "atom_text", Str.ofString "atom_text", sc27, ⟨[], [], none, [], [], none, []⟩, [], ns27, 3, [(.boo true)]⟩
noncomputable def ns28 : List String := ["char", "code"]
noncomputable def ir28 : Ss := (.cons (.asg (.nm 1 ⟨223,4,223,8⟩) (.bi .ord (.cons (.loc 0 ⟨223,15,223,19⟩) .nil) ⟨223,11,223,14⟩ ⟨223,11,223,20⟩) ⟨223,4,223,20⟩)
  (.cons (.ret (.bool .Or (.cons (.cal 13 (.cons (.loc 1 ⟨224,20,224,24⟩) .nil) ⟨224,11,224,19⟩ ⟨224,11,224,25⟩) (.cons (.cmp .GtE (.loc 1 ⟨224,29,224,33⟩) (.cint (128) 0 ⟨224,37,224,40⟩) ⟨224,29,224,40⟩) .nil)) ⟨224,11,224,40⟩) ⟨224,4,224,40⟩)
  .nil))
noncomputable def sc28 : Scope := ⟨.function, [(Str.ofString "char", .local), (Str.ofString "code", .local), (Str.ofString "ord", .globalImplicit), (Str.ofString "is_alnum", .globalImplicit)], false, false, []⟩
noncomputable def fh28 : FnI := ⟨327, "is_word", Str.ofString "is_word", sc28, ⟨[], [], none, [], [], none, []⟩, [], ns28, 1, []⟩
noncomputable def ns29 : List String := ["text"]
noncomputable def ir29 : Ss := (.cons (.ret (.bool .Or (.cons (.cmp .Eq (.loc 0 ⟨226,11,226,15⟩) (.cstr ";" 0 ⟨226,19,226,22⟩) ⟨226,11,226,22⟩) (.cons (.cmp .Eq (.loc 0 ⟨226,26,226,30⟩) (.cstr "!" 0 ⟨226,34,226,37⟩) ⟨226,26,226,37⟩) (.cons (.cal 16 (.cons (.loc 0 ⟨226,56,226,60⟩) .nil) ⟨226,41,226,55⟩ ⟨226,41,226,61⟩) .nil))) ⟨226,11,226,61⟩) ⟨226,4,226,61⟩)
  .nil)
noncomputable def sc29 : Scope := ⟨.function, [(Str.ofString "text", .local), (Str.ofString "is_symbol_name", .globalImplicit)], false, false, []⟩
noncomputable def fh29 : FnI := ⟨334, "is_tight", Str.ofString "is_tight", sc29, ⟨[], [], none, [], [], none, []⟩, [], ns29, 1, []⟩
noncomputable def ns30 : List String := ["self", "symbols", "operators", "quoted", "ignore_ops", "numbervars", "names", "k", "text"]
noncomputable def ir30 : Ss := (.cons (.asgA (.loc 0 ⟨230,8,230,12⟩) 4 (.loc 1 ⟨230,23,230,30⟩) ⟨230,8,230,20⟩ ⟨230,8,230,30⟩)
  (.cons (.asgA (.loc 0 ⟨231,8,231,12⟩) 8 (.loc 2 ⟨231,25,231,34⟩) ⟨231,8,231,22⟩ ⟨231,8,231,34⟩)
  (.cons (.asgA (.loc 0 ⟨232,8,232,12⟩) 9 (.loc 3 ⟨232,22,232,28⟩) ⟨232,8,232,19⟩ ⟨232,8,232,28⟩)
  (.cons (.asgA (.loc 0 ⟨233,8,233,12⟩) 10 (.loc 4 ⟨233,26,233,36⟩) ⟨233,8,233,23⟩ ⟨233,8,233,36⟩)
  (.cons (.asgA (.loc 0 ⟨234,8,234,12⟩) 11 (.loc 5 ⟨234,26,234,36⟩) ⟨234,8,234,23⟩ ⟨234,8,234,36⟩)
  (.cons (.asgA (.loc 0 ⟨235,8,235,12⟩) 12 (.newd ⟨235,21,235,23⟩) ⟨235,8,235,18⟩ ⟨235,8,235,23⟩)
  (.cons (.asgA (.loc 0 ⟨236,8,236,12⟩) 13 (.newd ⟨236,21,236,23⟩) ⟨236,8,236,18⟩ ⟨236,8,236,23⟩)
  (.cons (.iff (.cmp .IsNot (.loc 6 ⟨237,11,237,16⟩) (.cnon 0 ⟨237,24,237,28⟩) ⟨237,11,237,28⟩) (.cons (.bad (.For (.Tuple [(.Name (Str.ofString "k") ⟨238,16,238,17⟩), (.Name (Str.ofString "text") ⟨238,19,238,23⟩)] 0 ⟨238,16,238,23⟩) (.Call (.Attribute (.Name (Str.ofString "names") ⟨238,27,238,32⟩) (Str.ofString "items") ⟨238,27,238,38⟩) [] [] ⟨238,27,238,40⟩) [(.Assign [(.Subscript (.Attribute (.Name (Str.ofString "self") ⟨239,16,239,20⟩) (Str.ofString "names") ⟨239,16,239,26⟩) (.Name (Str.ofString "k") ⟨239,27,239,28⟩) ⟨239,16,239,29⟩)] (.Name (Str.ofString "text") ⟨239,32,239,36⟩) ⟨239,16,239,36⟩), (.Assign [(.Subscript (.Attribute (.Name (Str.ofString "self") ⟨240,16,240,20⟩) (Str.ofString "taken") ⟨240,16,240,26⟩) (.Name (Str.ofString "text") ⟨240,27,240,31⟩) ⟨240,16,240,32⟩)] (.Constant (.bool true) 0 ⟨240,35,240,39⟩) ⟨240,16,240,39⟩)] [] ⟨238,12,240,39⟩))
  .nil) .nil ⟨237,8,240,39⟩)
  (.cons (.asgA (.loc 0 ⟨241,8,241,12⟩) 14 (.newl ⟨241,19,241,21⟩) ⟨241,8,241,16⟩ ⟨241,8,241,21⟩)
  (.cons (.asgA (.loc 0 ⟨242,8,242,12⟩) 15 (.cstr "" 0 ⟨242,20,242,22⟩) ⟨242,8,242,17⟩ ⟨242,8,242,22⟩)
  (.cons (.asgA (.loc 0 ⟨243,8,243,12⟩) 16 (.cboo false 0 ⟨243,24,243,29⟩) ⟨243,8,243,21⟩ ⟨243,8,243,29⟩)
  (.cons (.asgA (.loc 0 ⟨244,8,244,12⟩) 17 (.newl ⟨244,20,244,22⟩) ⟨244,8,244,17⟩ ⟨244,8,244,22⟩)
  .nil))))))))))))
noncomputable def sc30 : Scope := ⟨.function, [(Str.ofString "self", .local), (Str.ofString "symbols", .local), (Str.ofString "operators", .local), (Str.ofString "quoted", .local), (Str.ofString "ignore_ops", .local), (Str.ofString "numbervars", .local), (Str.ofString "names", .local), (Str.ofString "k", .local), (Str.ofString "text", .local)], false, false, []⟩
noncomputable def fh30 : FnI := ⟨349, "", Str.ofString "Writer.__init__", sc30, ⟨[], [], none, [], [], none, []⟩, [], ns30, 7, [(.boo true), (.boo false), (.boo false), (.non)]⟩
noncomputable def ns31 : List String := ["self", "term", "most", "kind", "item", "limit", "alone"]
noncomputable def ir31 : Ss := (.cons (.asgA (.loc 0 ⟨247,8,247,12⟩) 14 (.newl ⟨247,19,247,21⟩) ⟨247,8,247,16⟩ ⟨247,8,247,21⟩)
  (.cons (.asgA (.loc 0 ⟨248,8,248,12⟩) 15 (.cstr "" 0 ⟨248,20,248,22⟩) ⟨248,8,248,17⟩ ⟨248,8,248,22⟩)
  (.cons (.asgA (.loc 0 ⟨249,8,249,12⟩) 16 (.cboo false 0 ⟨249,24,249,29⟩) ⟨249,8,249,21⟩ ⟨249,8,249,29⟩)
  (.cons (.asgA (.loc 0 ⟨250,8,250,12⟩) 17 (.newls (.cons (.tup (.cons (.cstr "term" 0 ⟨250,22,250,28⟩) (.cons (.loc 1 ⟨250,30,250,34⟩) (.cons (.loc 2 ⟨250,36,250,40⟩) (.cons (.cmp .GtE (.loc 2 ⟨250,42,250,46⟩) (.gv 11 ⟨250,50,250,64⟩) ⟨250,42,250,64⟩) .nil)))) 0 ⟨250,21,250,65⟩) .nil) ⟨250,20,250,66⟩) ⟨250,8,250,17⟩ ⟨250,8,250,66⟩)
  (.cons (.whl (.att (.loc 0 ⟨251,14,251,18⟩) 17 ⟨251,14,251,23⟩) (.cons (.asg (.tp [(3, ⟨252,12,252,16⟩), (4, ⟨252,18,252,22⟩), (5, ⟨252,24,252,29⟩), (6, ⟨252,31,252,36⟩)] 0 ⟨252,12,252,36⟩) (.mb (.att (.loc 0 ⟨252,39,252,43⟩) 17 ⟨252,39,252,48⟩) .pop .nil ⟨252,39,252,52⟩ ⟨252,39,252,54⟩) ⟨252,12,252,54⟩)
  (.cons (.iff (.cmp .Eq (.loc 3 ⟨253,15,253,19⟩) (.cstr "term" 0 ⟨253,23,253,29⟩) ⟨253,15,253,29⟩) (.cons (.exp (.met (.loc 0 ⟨254,16,254,20⟩) 16 (.cons (.loc 4 ⟨254,27,254,31⟩) (.cons (.loc 5 ⟨254,33,254,38⟩) (.cons (.loc 6 ⟨254,40,254,45⟩) .nil))) ⟨254,16,254,26⟩ ⟨254,16,254,46⟩) ⟨254,16,254,46⟩)
  .nil) (.cons (.iff (.cmp .Eq (.loc 3 ⟨255,17,255,21⟩) (.cstr "infix" 0 ⟨255,25,255,32⟩) ⟨255,17,255,32⟩) (.cons (.exp (.met (.loc 0 ⟨256,16,256,20⟩) 25 (.cons (.loc 4 ⟨256,36,256,40⟩) .nil) ⟨256,16,256,35⟩ ⟨256,16,256,41⟩) ⟨256,16,256,41⟩)
  .nil) (.cons (.iff (.cmp .Eq (.loc 3 ⟨257,17,257,21⟩) (.cstr "postfix" 0 ⟨257,25,257,34⟩) ⟨257,17,257,34⟩) (.cons (.exp (.met (.loc 0 ⟨258,16,258,20⟩) 26 (.cons (.loc 4 ⟨258,38,258,42⟩) .nil) ⟨258,16,258,37⟩ ⟨258,16,258,43⟩) ⟨258,16,258,43⟩)
  .nil) (.cons (.exp (.met (.loc 0 ⟨260,16,260,20⟩) 12 (.cons (.loc 4 ⟨260,25,260,29⟩) .nil) ⟨260,16,260,24⟩ ⟨260,16,260,30⟩) ⟨260,16,260,30⟩)
  .nil) ⟨257,12,260,30⟩)
  .nil) ⟨255,12,260,30⟩)
  .nil) ⟨253,12,260,30⟩)
  .nil)) ⟨251,8,260,30⟩)
  (.cons (.ret (.mb (.cstr "" 0 ⟨261,15,261,17⟩) .join (.cons (.att (.loc 0 ⟨261,23,261,27⟩) 14 ⟨261,23,261,31⟩) .nil) ⟨261,15,261,22⟩ ⟨261,15,261,32⟩) ⟨261,8,261,32⟩)
  .nil))))))
noncomputable def sc31 : Scope := ⟨.function, [(Str.ofString "self", .local), (Str.ofString "term", .local), (Str.ofString "most", .local), (Str.ofString "kind", .local), (Str.ofString "item", .local), (Str.ofString "limit", .local), (Str.ofString "alone", .local), (Str.ofString "WHOLE_PRIORITY", .globalImplicit)], false, false, []⟩
noncomputable def fh31 : FnI := ⟨357, "", Str.ofString "Writer.text", sc31, ⟨[], [], none, [], [], none, []⟩, [], ns31, 3, [(.int (1201))]⟩
noncomputable def ns32 : List String := ["self", "text"]
noncomputable def ir32 : Ss := (.cons (.iff (.cmp .NotEq (.loc 1 ⟨264,11,264,15⟩) (.cstr "" 0 ⟨264,19,264,21⟩) ⟨264,11,264,21⟩) (.cons (.exp (.mb (.att (.loc 0 ⟨265,12,265,16⟩) 14 ⟨265,12,265,20⟩) .append (.cons (.loc 1 ⟨265,28,265,32⟩) .nil) ⟨265,12,265,27⟩ ⟨265,12,265,33⟩) ⟨265,12,265,33⟩)
  (.cons (.asgA (.loc 0 ⟨266,12,266,16⟩) 15 (.idx (.loc 1 ⟨266,24,266,28⟩) (.bin .sub (.bi .len (.cons (.loc 1 ⟨266,33,266,37⟩) .nil) ⟨266,29,266,32⟩ ⟨266,29,266,38⟩) (.cint (1) 0 ⟨266,41,266,42⟩) ⟨266,29,266,42⟩) ⟨266,24,266,43⟩) ⟨266,12,266,21⟩ ⟨266,12,266,43⟩)
  (.cons (.asgA (.loc 0 ⟨267,12,267,16⟩) 16 (.cboo false 0 ⟨267,28,267,33⟩) ⟨267,12,267,25⟩ ⟨267,12,267,33⟩)
  .nil))) .nil ⟨264,8,267,33⟩)
  .nil)
noncomputable def sc32 : Scope := ⟨.function, [(Str.ofString "self", .local), (Str.ofString "text", .local), (Str.ofString "len", .globalImplicit)], false, false, []⟩
noncomputable def fh32 : FnI := ⟨364, "", Str.ofString "Writer.raw", sc32, ⟨[], [], none, [], [], none, []⟩, [], ns32, 2, []⟩
noncomputable def ns33 : List String := ["self", "text"]
noncomputable def ir33 : Ss := (.cons (.iff (.cmp .NotEq (.loc 1 ⟨270,11,270,15⟩) (.cstr "" 0 ⟨270,19,270,21⟩) ⟨270,11,270,21⟩) (.cons (.iff (.met (.loc 0 ⟨271,15,271,19⟩) 14 (.cons (.idx (.loc 1 ⟨271,32,271,36⟩) (.cint (0) 0 ⟨271,37,271,38⟩) ⟨271,32,271,39⟩) .nil) ⟨271,15,271,31⟩ ⟨271,15,271,40⟩) (.cons (.exp (.mb (.att (.loc 0 ⟨272,16,272,20⟩) 14 ⟨272,16,272,24⟩) .append (.cons (.cstr " " 0 ⟨272,32,272,35⟩) .nil) ⟨272,16,272,31⟩ ⟨272,16,272,36⟩) ⟨272,16,272,36⟩)
  .nil) .nil ⟨271,12,272,36⟩)
  (.cons (.exp (.met (.loc 0 ⟨273,12,273,16⟩) 12 (.cons (.loc 1 ⟨273,21,273,25⟩) .nil) ⟨273,12,273,20⟩ ⟨273,12,273,26⟩) ⟨273,12,273,26⟩)
  .nil)) .nil ⟨270,8,273,26⟩)
  .nil)
noncomputable def sc33 : Scope := ⟨.function, [(Str.ofString "self", .local), (Str.ofString "text", .local)], false, false, []⟩
noncomputable def fh33 : FnI := ⟨371, "", Str.ofString "Writer.token", sc33, ⟨[], [], none, [], [], none, []⟩, [], ns33, 2, []⟩
noncomputable def ns34 : List String := ["self", "first"]
noncomputable def ir34 : Ss := (.cons (.iff (.bool .Or (.cons (.cmp .Eq (.att (.loc 0 ⟨276,11,276,15⟩) 15 ⟨276,11,276,20⟩) (.cstr "" 0 ⟨276,24,276,26⟩) ⟨276,11,276,26⟩) (.cons (.cmp .Eq (.att (.loc 0 ⟨276,30,276,34⟩) 15 ⟨276,30,276,39⟩) (.cstr " " 0 ⟨276,43,276,46⟩) ⟨276,30,276,46⟩) .nil)) ⟨276,11,276,46⟩) (.cons (.ret (.cboo false 0 ⟨277,19,277,24⟩) ⟨277,12,277,24⟩)
  .nil) .nil ⟨276,8,277,24⟩)
  (.cons (.iff (.bool .And (.cons (.att (.loc 0 ⟨278,11,278,15⟩) 16 ⟨278,11,278,24⟩) (.cons (.bool .Or (.cons (.cmp .Eq (.loc 1 ⟨278,30,278,35⟩) (.cstr "(" 0 ⟨278,39,278,42⟩) ⟨278,30,278,42⟩) (.cons (.bool .And (.cons (.cmp .Eq (.att (.loc 0 ⟨278,47,278,51⟩) 15 ⟨278,47,278,56⟩) (.cstr "-" 0 ⟨278,60,278,63⟩) ⟨278,47,278,63⟩) (.cons (.cal 10 (.cons (.bi .ord (.cons (.loc 1 ⟨278,81,278,86⟩) .nil) ⟨278,77,278,80⟩ ⟨278,77,278,87⟩) .nil) ⟨278,68,278,76⟩ ⟨278,68,278,88⟩) .nil)) ⟨278,47,278,88⟩) .nil)) ⟨278,30,278,89⟩) .nil)) ⟨278,11,278,90⟩) (.cons (.ret (.cboo true 0 ⟨279,19,279,23⟩) ⟨279,12,279,23⟩)
  .nil) .nil ⟨278,8,279,23⟩)
  (.cons (.iff (.cal 28 (.cons (.att (.loc 0 ⟨280,19,280,23⟩) 15 ⟨280,19,280,28⟩) .nil) ⟨280,11,280,18⟩ ⟨280,11,280,29⟩) (.cons (.ret (.bool .Or (.cons (.cal 28 (.cons (.loc 1 ⟨281,27,281,32⟩) .nil) ⟨281,19,281,26⟩ ⟨281,19,281,33⟩) (.cons (.cmp .Eq (.loc 1 ⟨281,37,281,42⟩) (.cstr "'" 0 ⟨281,46,281,49⟩) ⟨281,37,281,49⟩) .nil)) ⟨281,19,281,49⟩) ⟨281,12,281,49⟩)
  .nil) .nil ⟨280,8,281,49⟩)
  (.cons (.iff (.cal 14 (.cons (.bi .ord (.cons (.att (.loc 0 ⟨282,25,282,29⟩) 15 ⟨282,25,282,34⟩) .nil) ⟨282,21,282,24⟩ ⟨282,21,282,35⟩) .nil) ⟨282,11,282,20⟩ ⟨282,11,282,36⟩) (.cons (.ret (.cal 14 (.cons (.bi .ord (.cons (.loc 1 ⟨283,33,283,38⟩) .nil) ⟨283,29,283,32⟩ ⟨283,29,283,39⟩) .nil) ⟨283,19,283,28⟩ ⟨283,19,283,40⟩) ⟨283,12,283,40⟩)
  .nil) .nil ⟨282,8,283,40⟩)
  (.cons (.ret (.bool .And (.cons (.cmp .Eq (.att (.loc 0 ⟨284,15,284,19⟩) 15 ⟨284,15,284,24⟩) (.cstr "'" 0 ⟨284,28,284,31⟩) ⟨284,15,284,31⟩) (.cons (.cmp .Eq (.loc 1 ⟨284,36,284,41⟩) (.cstr "'" 0 ⟨284,45,284,48⟩) ⟨284,36,284,48⟩) .nil)) ⟨284,15,284,48⟩) ⟨284,8,284,48⟩)
  .nil)))))
noncomputable def sc34 : Scope := ⟨.function, [(Str.ofString "self", .local), (Str.ofString "first", .local), (Str.ofString "is_digit", .globalImplicit), (Str.ofString "ord", .globalImplicit), (Str.ofString "is_word", .globalImplicit), (Str.ofString "is_symbol", .globalImplicit)], false, false, []⟩
noncomputable def fh34 : FnI := ⟨378, "", Str.ofString "Writer.needs_space", sc34, ⟨[], [], none, [], [], none, []⟩, [], ns34, 2, []⟩
noncomputable def ns35 : List String := ["self", "items", "item"]
noncomputable def ir35 : Ss := (.cons (.for_ (.nm 2 ⟨287,12,287,16⟩) (.rev ⟨287,20,287,28⟩ ⟨287,20,287,35⟩) (.loc 1 ⟨287,29,287,34⟩) (.cons (.exp (.mb (.att (.loc 0 ⟨288,12,288,16⟩) 17 ⟨288,12,288,21⟩) .append (.cons (.loc 2 ⟨288,29,288,33⟩) .nil) ⟨288,12,288,28⟩ ⟨288,12,288,34⟩) ⟨288,12,288,34⟩)
  .nil) ⟨287,8,288,34⟩)
  .nil)
noncomputable def sc35 : Scope := ⟨.function, [(Str.ofString "self", .local), (Str.ofString "items", .local), (Str.ofString "item", .local), (Str.ofString "reversed", .globalImplicit)], false, false, []⟩
noncomputable def fh35 : FnI := ⟨385, "", Str.ofString "Writer.later", sc35, ⟨[], [], none, [], [], none, []⟩, [], ns35, 2, []⟩
noncomputable def ns36 : List String := ["self", "term", "most", "alone", "kind", "shape"]
noncomputable def ir36 : Ss := (.cons (.asg (.nm 4 ⟨291,8,291,12⟩) (.idx (.loc 1 ⟨291,15,291,19⟩) (.cint (0) 0 ⟨291,20,291,21⟩) ⟨291,15,291,22⟩) ⟨291,8,291,22⟩)
  (.cons (.iff (.cmp .Eq (.loc 4 ⟨292,11,292,15⟩) (.cstr "v" 0 ⟨292,19,292,22⟩) ⟨292,11,292,22⟩) (.cons (.bad (.Expr (.Call (.Attribute (.Name (Str.ofString "self") ⟨293,12,293,16⟩) (Str.ofString "token") ⟨293,12,293,22⟩) [(.Call (.Attribute (.Name (Str.ofString "self") ⟨293,23,293,27⟩) (Str.ofString "variable_text") ⟨293,23,293,41⟩) [(.Subscript (.Name (Str.ofString "term") ⟨293,42,293,46⟩) (.Constant (.int (1)) 0 ⟨293,47,293,48⟩) ⟨293,42,293,49⟩)] [] ⟨293,23,293,50⟩)] [] ⟨293,12,293,51⟩) ⟨293,12,293,51⟩))
  .nil) (.cons (.iff (.cmp .Eq (.loc 4 ⟨294,13,294,17⟩) (.cstr "i" 0 ⟨294,21,294,24⟩) ⟨294,13,294,24⟩) (.cons (.bad (.Expr (.Call (.Attribute (.Name (Str.ofString "self") ⟨295,12,295,16⟩) (Str.ofString "token") ⟨295,12,295,22⟩) [(.Call (.Name (Str.ofString "number_text") ⟨295,23,295,34⟩) [(.Subscript (.Name (Str.ofString "term") ⟨295,35,295,39⟩) (.Constant (.int (1)) 0 ⟨295,40,295,41⟩) ⟨295,35,295,42⟩)] [] ⟨295,23,295,43⟩)] [] ⟨295,12,295,44⟩) ⟨295,12,295,44⟩))
  .nil) (.cons (.iff (.cmp .Eq (.loc 4 ⟨296,13,296,17⟩) (.cstr "a" 0 ⟨296,21,296,24⟩) ⟨296,13,296,24⟩) (.cons (.exp (.met (.loc 0 ⟨297,12,297,16⟩) 18 (.cons (.idx (.loc 1 ⟨297,28,297,32⟩) (.cint (1) 0 ⟨297,33,297,34⟩) ⟨297,28,297,35⟩) (.cons (.loc 3 ⟨297,37,297,42⟩) .nil)) ⟨297,12,297,27⟩ ⟨297,12,297,43⟩) ⟨297,12,297,43⟩)
  .nil) (.cons (.iff (.cmp .Eq (.idx (.loc 1 ⟨298,13,298,17⟩) (.cint (1) 0 ⟨298,18,298,19⟩) ⟨298,13,298,20⟩) (.gv 4 ⟨298,24,298,29⟩) ⟨298,13,298,29⟩) (.cons (.exp (.met (.loc 0 ⟨299,12,299,16⟩) 19 (.cons (.loc 1 ⟨299,28,299,32⟩) .nil) ⟨299,12,299,27⟩ ⟨299,12,299,33⟩) ⟨299,12,299,33⟩)
  .nil) (.cons (.iff (.met (.loc 0 ⟨300,13,300,17⟩) 17 (.cons (.loc 1 ⟨300,30,300,34⟩) .nil) ⟨300,13,300,29⟩ ⟨300,13,300,35⟩) (.cons (.bad (.Expr (.Call (.Attribute (.Name (Str.ofString "self") ⟨301,12,301,16⟩) (Str.ofString "token") ⟨301,12,301,22⟩) [(.Call (.Name (Str.ofString "numbered_text") ⟨301,23,301,36⟩) [(.Subscript (.Subscript (.Subscript (.Name (Str.ofString "term") ⟨301,37,301,41⟩) (.Constant (.int (2)) 0 ⟨301,42,301,43⟩) ⟨301,37,301,44⟩) (.Constant (.int (0)) 0 ⟨301,45,301,46⟩) ⟨301,37,301,47⟩) (.Constant (.int (1)) 0 ⟨301,48,301,49⟩) ⟨301,37,301,50⟩)] [] ⟨301,23,301,51⟩)] [] ⟨301,12,301,52⟩) ⟨301,12,301,52⟩))
  .nil) (.cons (.iff (.bool .And (.cons (.cmp .Eq (.idx (.loc 1 ⟨302,13,302,17⟩) (.cint (1) 0 ⟨302,18,302,19⟩) ⟨302,13,302,20⟩) (.gv 5 ⟨302,24,302,31⟩) ⟨302,13,302,31⟩) (.cons (.not (.att (.loc 0 ⟨302,41,302,45⟩) 10 ⟨302,41,302,56⟩) ⟨302,37,302,56⟩) .nil)) ⟨302,13,302,57⟩) (.cons (.exp (.met (.loc 0 ⟨303,12,303,16⟩) 13 (.cons (.cstr "{" 0 ⟨303,23,303,26⟩) .nil) ⟨303,12,303,22⟩ ⟨303,12,303,27⟩) ⟨303,12,303,27⟩)
  (.cons (.exp (.met (.loc 0 ⟨304,12,304,16⟩) 15 (.cons (.lst (.cons (.tup (.cons (.cstr "term" 0 ⟨304,25,304,31⟩) (.cons (.idx (.idx (.loc 1 ⟨304,33,304,37⟩) (.cint (2) 0 ⟨304,38,304,39⟩) ⟨304,33,304,40⟩) (.cint (0) 0 ⟨304,41,304,42⟩) ⟨304,33,304,43⟩) (.cons (.gv 11 ⟨304,45,304,59⟩) (.cons (.cboo true 0 ⟨304,61,304,65⟩) .nil)))) 0 ⟨304,24,304,66⟩) (.cons (.tup (.cons (.cstr "raw" 0 ⟨304,69,304,74⟩) (.cons (.cstr "}" 0 ⟨304,76,304,79⟩) (.cons (.cint (0) 0 ⟨304,81,304,82⟩) (.cons (.cboo false 0 ⟨304,84,304,89⟩) .nil)))) 0 ⟨304,68,304,90⟩) .nil)) ⟨304,23,304,91⟩) .nil) ⟨304,12,304,22⟩ ⟨304,12,304,92⟩) ⟨304,12,304,92⟩)
  .nil)) (.cons (.asg (.nm 5 ⟨306,12,306,17⟩) (.met (.loc 0 ⟨306,20,306,24⟩) 21 (.cons (.loc 1 ⟨306,31,306,35⟩) .nil) ⟨306,20,306,30⟩ ⟨306,20,306,36⟩) ⟨306,12,306,36⟩)
  (.cons (.iff (.cmp .Is (.loc 5 ⟨307,15,307,20⟩) (.cnon 0 ⟨307,24,307,28⟩) ⟨307,15,307,28⟩) (.cons (.exp (.met (.loc 0 ⟨308,16,308,20⟩) 20 (.cons (.loc 1 ⟨308,38,308,42⟩) .nil) ⟨308,16,308,37⟩ ⟨308,16,308,43⟩) ⟨308,16,308,43⟩)
  .nil) (.cons (.exp (.met (.loc 0 ⟨310,16,310,20⟩) 22 (.cons (.loc 1 ⟨310,37,310,41⟩) (.cons (.loc 5 ⟨310,43,310,48⟩) (.cons (.loc 2 ⟨310,50,310,54⟩) .nil))) ⟨310,16,310,36⟩ ⟨310,16,310,55⟩) ⟨310,16,310,55⟩)
  .nil) ⟨307,12,310,55⟩)
  .nil)) ⟨302,8,310,55⟩)
  .nil) ⟨300,8,310,55⟩)
  .nil) ⟨298,8,310,55⟩)
  .nil) ⟨296,8,310,55⟩)
  .nil) ⟨294,8,310,55⟩)
  .nil) ⟨292,8,310,55⟩)
  .nil))
noncomputable def sc36 : Scope := ⟨.function, [(Str.ofString "self", .local), (Str.ofString "term", .local), (Str.ofString "most", .local), (Str.ofString "alone", .local), (Str.ofString "kind", .local), (Str.ofString "shape", .local), (Str.ofString "number_text", .globalImplicit), (Str.ofString "F_DOT", .globalImplicit), (Str.ofString "numbered_text", .globalImplicit), (Str.ofString "F_CURLY", .globalImplicit), (Str.ofString "WHOLE_PRIORITY", .globalImplicit)], false, false, []⟩
noncomputable def fh36 : FnI := ⟨392, "", Str.ofString "Writer.write", sc36, ⟨[], [], none, [], [], none, []⟩, [], ns36, 4, []⟩
noncomputable def ns37 : List String := ["self", "term"]
noncomputable def ir37 : Ss := (.cons (.iff (.bool .Or (.cons (.not (.att (.loc 0 ⟨321,15,321,19⟩) 11 ⟨321,15,321,30⟩) ⟨321,11,321,30⟩) (.cons (.cmp .NotEq (.idx (.loc 1 ⟨321,34,321,38⟩) (.cint (1) 0 ⟨321,39,321,40⟩) ⟨321,34,321,41⟩) (.gv 6 ⟨321,45,321,54⟩) ⟨321,34,321,54⟩) .nil)) ⟨321,11,321,54⟩) (.cons (.ret (.cboo false 0 ⟨322,19,322,24⟩) ⟨322,12,322,24⟩)
  .nil) .nil ⟨321,8,322,24⟩)
  (.cons (.ret (.bool .And (.cons (.cmp .Eq (.idx (.idx (.idx (.loc 1 ⟨323,15,323,19⟩) (.cint (2) 0 ⟨323,20,323,21⟩) ⟨323,15,323,22⟩) (.cint (0) 0 ⟨323,23,323,24⟩) ⟨323,15,323,25⟩) (.cint (0) 0 ⟨323,26,323,27⟩) ⟨323,15,323,28⟩) (.cstr "i" 0 ⟨323,32,323,35⟩) ⟨323,15,323,35⟩) (.cons (.cmp .GtE (.idx (.idx (.idx (.loc 1 ⟨323,40,323,44⟩) (.cint (2) 0 ⟨323,45,323,46⟩) ⟨323,40,323,47⟩) (.cint (0) 0 ⟨323,48,323,49⟩) ⟨323,40,323,50⟩) (.cint (1) 0 ⟨323,51,323,52⟩) ⟨323,40,323,53⟩) (.cint (0) 0 ⟨323,57,323,58⟩) ⟨323,40,323,58⟩) .nil)) ⟨323,15,323,58⟩) ⟨323,8,323,58⟩)
  .nil))
noncomputable def sc37 : Scope := ⟨.function, [(Str.ofString "self", .local), (Str.ofString "term", .local), (Str.ofString "F_VARNAME", .globalImplicit)], false, false, []⟩
noncomputable def fh37 : FnI := ⟨406, "", Str.ofString "Writer.is_numbered", sc37, ⟨[], [], none, [], [], none, []⟩, [], ns37, 2, []⟩
noncomputable def ns38 : List String := ["self", "a", "alone", "text"]
noncomputable def ir38 : Ss := (.cons (.asg (.nm 3 ⟨326,8,326,12⟩) (.cal 27 (.cons (.att (.loc 0 ⟨326,25,326,29⟩) 4 ⟨326,25,326,37⟩) (.cons (.loc 1 ⟨326,39,326,40⟩) (.cons (.att (.loc 0 ⟨326,42,326,46⟩) 9 ⟨326,42,326,53⟩) .nil))) ⟨326,15,326,24⟩ ⟨326,15,326,54⟩) ⟨326,8,326,54⟩)
  (.cons (.iff (.bool .And (.cons (.not (.loc 2 ⟨327,15,327,20⟩) ⟨327,11,327,20⟩) (.cons (.met (.att (.loc 0 ⟨327,25,327,29⟩) 8 ⟨327,25,327,39⟩) 9 (.cons (.loc 1 ⟨327,52,327,53⟩) .nil) ⟨327,25,327,51⟩ ⟨327,25,327,54⟩) .nil)) ⟨327,11,327,54⟩) (.cons (.exp (.met (.loc 0 ⟨328,12,328,16⟩) 13 (.cons (.cstr "(" 0 ⟨328,23,328,26⟩) .nil) ⟨328,12,328,22⟩ ⟨328,12,328,27⟩) ⟨328,12,328,27⟩)
  (.cons (.exp (.met (.loc 0 ⟨329,12,329,16⟩) 12 (.cons (.loc 3 ⟨329,21,329,25⟩) .nil) ⟨329,12,329,20⟩ ⟨329,12,329,26⟩) ⟨329,12,329,26⟩)
  (.cons (.exp (.met (.loc 0 ⟨330,12,330,16⟩) 12 (.cons (.cstr ")" 0 ⟨330,21,330,24⟩) .nil) ⟨330,12,330,20⟩ ⟨330,12,330,25⟩) ⟨330,12,330,25⟩)
  .nil))) (.cons (.exp (.met (.loc 0 ⟨332,12,332,16⟩) 13 (.cons (.loc 3 ⟨332,23,332,27⟩) .nil) ⟨332,12,332,22⟩ ⟨332,12,332,28⟩) ⟨332,12,332,28⟩)
  .nil) ⟨327,8,332,28⟩)
  .nil))
noncomputable def sc38 : Scope := ⟨.function, [(Str.ofString "self", .local), (Str.ofString "a", .local), (Str.ofString "alone", .local), (Str.ofString "text", .local), (Str.ofString "atom_text", .globalImplicit)], false, false, []⟩
noncomputable def fh38 : FnI := ⟨413, "", Str.ofString "Writer.write_atom", sc38, ⟨[], [], none, [], [], none, []⟩, [], ns38, 3, []⟩
noncomputable def ns39 : List String := ["self", "term", "items", "tail", "rows", "item"]
noncomputable def ir39 : Ss := (.cons (.asg (.tp [(2, ⟨335,8,335,13⟩), (3, ⟨335,15,335,19⟩)] 0 ⟨335,8,335,19⟩) (.cal 9 (.cons (.loc 1 ⟨335,33,335,37⟩) .nil) ⟨335,22,335,32⟩ ⟨335,22,335,38⟩) ⟨335,8,335,38⟩)
  (.cons (.exp (.met (.loc 0 ⟨336,8,336,12⟩) 13 (.cons (.cstr "[" 0 ⟨336,19,336,22⟩) .nil) ⟨336,8,336,18⟩ ⟨336,8,336,23⟩) ⟨336,8,336,23⟩)
  (.cons (.ownN 4 ⟨337,8,337,12⟩ ⟨337,15,337,17⟩ ⟨337,8,337,17⟩)
  (.cons (.for_ (.nm 5 ⟨338,12,338,16⟩) .over (.loc 2 ⟨338,20,338,25⟩) (.cons (.iff (.loc 4 ⟨339,15,339,19⟩) (.cons (.ownA 4 (.tup (.cons (.cstr "raw" 0 ⟨340,29,340,34⟩) (.cons (.cstr "," 0 ⟨340,36,340,39⟩) (.cons (.cint (0) 0 ⟨340,41,340,42⟩) (.cons (.cboo false 0 ⟨340,44,340,49⟩) .nil)))) 0 ⟨340,28,340,50⟩) ⟨340,16,340,20⟩ ⟨340,16,340,27⟩ ⟨340,16,340,51⟩ ⟨340,16,340,51⟩)
  .nil) .nil ⟨339,12,340,51⟩)
  (.cons (.ownA 4 (.tup (.cons (.cstr "term" 0 ⟨341,25,341,31⟩) (.cons (.loc 5 ⟨341,33,341,37⟩) (.cons (.gv 12 ⟨341,39,341,56⟩) (.cons (.cboo true 0 ⟨341,58,341,62⟩) .nil)))) 0 ⟨341,24,341,63⟩) ⟨341,12,341,16⟩ ⟨341,12,341,23⟩ ⟨341,12,341,64⟩ ⟨341,12,341,64⟩)
  .nil)) ⟨338,8,341,64⟩)
  (.cons (.iff (.cmp .NotEq (.loc 3 ⟨342,11,342,15⟩) (.tup (.cons (.cstr "a" 0 ⟨342,20,342,23⟩) (.cons (.gv 0 ⟨342,25,342,30⟩) .nil)) 0 ⟨342,19,342,31⟩) ⟨342,11,342,31⟩) (.cons (.ownA 4 (.tup (.cons (.cstr "raw" 0 ⟨343,25,343,30⟩) (.cons (.cstr "|" 0 ⟨343,32,343,35⟩) (.cons (.cint (0) 0 ⟨343,37,343,38⟩) (.cons (.cboo false 0 ⟨343,40,343,45⟩) .nil)))) 0 ⟨343,24,343,46⟩) ⟨343,12,343,16⟩ ⟨343,12,343,23⟩ ⟨343,12,343,47⟩ ⟨343,12,343,47⟩)
  (.cons (.ownA 4 (.tup (.cons (.cstr "term" 0 ⟨344,25,344,31⟩) (.cons (.loc 3 ⟨344,33,344,37⟩) (.cons (.gv 12 ⟨344,39,344,56⟩) (.cons (.cboo true 0 ⟨344,58,344,62⟩) .nil)))) 0 ⟨344,24,344,63⟩) ⟨344,12,344,16⟩ ⟨344,12,344,23⟩ ⟨344,12,344,64⟩ ⟨344,12,344,64⟩)
  .nil)) .nil ⟨342,8,344,64⟩)
  (.cons (.ownA 4 (.tup (.cons (.cstr "raw" 0 ⟨345,21,345,26⟩) (.cons (.cstr "]" 0 ⟨345,28,345,31⟩) (.cons (.cint (0) 0 ⟨345,33,345,34⟩) (.cons (.cboo false 0 ⟨345,36,345,41⟩) .nil)))) 0 ⟨345,20,345,42⟩) ⟨345,8,345,12⟩ ⟨345,8,345,19⟩ ⟨345,8,345,43⟩ ⟨345,8,345,43⟩)
  (.cons (.frz 4)
  (.cons (.exp (.met (.loc 0 ⟨346,8,346,12⟩) 15 (.cons (.loc 4 ⟨346,19,346,23⟩) .nil) ⟨346,8,346,18⟩ ⟨346,8,346,24⟩) ⟨346,8,346,24⟩)
  .nil))))))))
noncomputable def sc39 : Scope := ⟨.function, [(Str.ofString "self", .local), (Str.ofString "term", .local), (Str.ofString "items", .local), (Str.ofString "tail", .local), (Str.ofString "rows", .local), (Str.ofString "item", .local), (Str.ofString "list_items", .globalImplicit), (Str.ofString "ARGUMENT_PRIORITY", .globalImplicit), (Str.ofString "A_NIL", .globalImplicit)], false, false, []⟩
noncomputable def fh39 : FnI := ⟨420, "", Str.ofString "Writer.write_list", sc39, ⟨[], [], none, [], [], none, []⟩, [], ns39, 2, []⟩
noncomputable def ns40 : List String := ["self", "term", "rows", "item"]
noncomputable def ir40 : Ss := (.cons (.exp (.met (.loc 0 ⟨349,8,349,12⟩) 13 (.cons (.cal 27 (.cons (.att (.loc 0 ⟨349,29,349,33⟩) 4 ⟨349,29,349,41⟩) (.cons (.met (.att (.loc 0 ⟨349,43,349,47⟩) 4 ⟨349,43,349,55⟩) 4 (.cons (.idx (.loc 1 ⟨349,61,349,65⟩) (.cint (1) 0 ⟨349,66,349,67⟩) ⟨349,61,349,68⟩) .nil) ⟨349,43,349,60⟩ ⟨349,43,349,69⟩) (.cons (.att (.loc 0 ⟨349,71,349,75⟩) 9 ⟨349,71,349,82⟩) .nil))) ⟨349,19,349,28⟩ ⟨349,19,349,83⟩) .nil) ⟨349,8,349,18⟩ ⟨349,8,349,84⟩) ⟨349,8,349,84⟩)
  (.cons (.ownN 2 ⟨350,8,350,12⟩ ⟨350,15,350,17⟩ ⟨350,8,350,17⟩)
  (.cons (.for_ (.nm 3 ⟨351,12,351,16⟩) .over (.idx (.loc 1 ⟨351,20,351,24⟩) (.cint (2) 0 ⟨351,25,351,26⟩) ⟨351,20,351,27⟩) (.cons (.iff (.loc 2 ⟨352,15,352,19⟩) (.cons (.ownA 2 (.tup (.cons (.cstr "raw" 0 ⟨353,29,353,34⟩) (.cons (.cstr "," 0 ⟨353,36,353,39⟩) (.cons (.cint (0) 0 ⟨353,41,353,42⟩) (.cons (.cboo false 0 ⟨353,44,353,49⟩) .nil)))) 0 ⟨353,28,353,50⟩) ⟨353,16,353,20⟩ ⟨353,16,353,27⟩ ⟨353,16,353,51⟩ ⟨353,16,353,51⟩)
  .nil) (.cons (.ownA 2 (.tup (.cons (.cstr "raw" 0 ⟨355,29,355,34⟩) (.cons (.cstr "(" 0 ⟨355,36,355,39⟩) (.cons (.cint (0) 0 ⟨355,41,355,42⟩) (.cons (.cboo false 0 ⟨355,44,355,49⟩) .nil)))) 0 ⟨355,28,355,50⟩) ⟨355,16,355,20⟩ ⟨355,16,355,27⟩ ⟨355,16,355,51⟩ ⟨355,16,355,51⟩)
  .nil) ⟨352,12,355,51⟩)
  (.cons (.ownA 2 (.tup (.cons (.cstr "term" 0 ⟨356,25,356,31⟩) (.cons (.loc 3 ⟨356,33,356,37⟩) (.cons (.gv 12 ⟨356,39,356,56⟩) (.cons (.cboo true 0 ⟨356,58,356,62⟩) .nil)))) 0 ⟨356,24,356,63⟩) ⟨356,12,356,16⟩ ⟨356,12,356,23⟩ ⟨356,12,356,64⟩ ⟨356,12,356,64⟩)
  .nil)) ⟨351,8,356,64⟩)
  (.cons (.ownA 2 (.tup (.cons (.cstr "raw" 0 ⟨357,21,357,26⟩) (.cons (.cstr ")" 0 ⟨357,28,357,31⟩) (.cons (.cint (0) 0 ⟨357,33,357,34⟩) (.cons (.cboo false 0 ⟨357,36,357,41⟩) .nil)))) 0 ⟨357,20,357,42⟩) ⟨357,8,357,12⟩ ⟨357,8,357,19⟩ ⟨357,8,357,43⟩ ⟨357,8,357,43⟩)
  (.cons (.frz 2)
  (.cons (.exp (.met (.loc 0 ⟨358,8,358,12⟩) 15 (.cons (.loc 2 ⟨358,19,358,23⟩) .nil) ⟨358,8,358,18⟩ ⟨358,8,358,24⟩) ⟨358,8,358,24⟩)
  .nil))))))
noncomputable def sc40 : Scope := ⟨.function, [(Str.ofString "self", .local), (Str.ofString "term", .local), (Str.ofString "rows", .local), (Str.ofString "item", .local), (Str.ofString "atom_text", .globalImplicit), (Str.ofString "ARGUMENT_PRIORITY", .globalImplicit)], false, false, []⟩
noncomputable def fh40 : FnI := ⟨427, "", Str.ofString "Writer.write_functional", sc40, ⟨[], [], none, [], [], none, []⟩, [], ns40, 2, []⟩
noncomputable def ns41 : List String := ["self", "term", "name", "args", "entry"]
noncomputable def ir41 : Ss := (.cons (.iff (.bool .Or (.cons (.att (.loc 0 ⟨361,11,361,15⟩) 10 ⟨361,11,361,26⟩) (.cons (.cmp .NotEq (.idx (.loc 1 ⟨361,30,361,34⟩) (.cint (0) 0 ⟨361,35,361,36⟩) ⟨361,30,361,37⟩) (.cstr "s" 0 ⟨361,41,361,44⟩) ⟨361,30,361,44⟩) .nil)) ⟨361,11,361,44⟩) (.cons (.ret (.cnon 0 ⟨362,19,362,23⟩) ⟨362,12,362,23⟩)
  .nil) .nil ⟨361,8,362,23⟩)
  (.cons (.iff (.bool .Or (.cons (.cmp .Eq (.idx (.loc 1 ⟨363,11,363,15⟩) (.cint (1) 0 ⟨363,16,363,17⟩) ⟨363,11,363,18⟩) (.gv 4 ⟨363,22,363,27⟩) ⟨363,11,363,27⟩) (.cons (.cmp .Eq (.idx (.loc 1 ⟨363,31,363,35⟩) (.cint (1) 0 ⟨363,36,363,37⟩) ⟨363,31,363,38⟩) (.gv 5 ⟨363,42,363,49⟩) ⟨363,31,363,49⟩) (.cons (.met (.loc 0 ⟨363,53,363,57⟩) 17 (.cons (.loc 1 ⟨363,70,363,74⟩) .nil) ⟨363,53,363,69⟩ ⟨363,53,363,75⟩) .nil))) ⟨363,11,363,75⟩) (.cons (.ret (.cnon 0 ⟨364,19,364,23⟩) ⟨364,12,364,23⟩)
  .nil) .nil ⟨363,8,364,23⟩)
  (.cons (.asg (.nm 2 ⟨365,8,365,12⟩) (.met (.att (.loc 0 ⟨365,15,365,19⟩) 4 ⟨365,15,365,27⟩) 4 (.cons (.idx (.loc 1 ⟨365,33,365,37⟩) (.cint (1) 0 ⟨365,38,365,39⟩) ⟨365,33,365,40⟩) .nil) ⟨365,15,365,32⟩ ⟨365,15,365,41⟩) ⟨365,8,365,41⟩)
  (.cons (.asg (.nm 3 ⟨366,8,366,12⟩) (.idx (.loc 1 ⟨366,15,366,19⟩) (.cint (2) 0 ⟨366,20,366,21⟩) ⟨366,15,366,22⟩) ⟨366,8,366,22⟩)
  (.cons (.iff (.cmp .Eq (.bi .len (.cons (.loc 3 ⟨367,15,367,19⟩) .nil) ⟨367,11,367,14⟩ ⟨367,11,367,20⟩) (.cint (2) 0 ⟨367,24,367,25⟩) ⟨367,11,367,25⟩) (.cons (.asg (.nm 4 ⟨368,12,368,17⟩) (.met (.att (.loc 0 ⟨368,20,368,24⟩) 8 ⟨368,20,368,34⟩) 7 (.cons (.loc 2 ⟨368,41,368,45⟩) .nil) ⟨368,20,368,40⟩ ⟨368,20,368,46⟩) ⟨368,12,368,46⟩)
  (.cons (.iff (.cmp .IsNot (.loc 4 ⟨369,15,369,20⟩) (.cnon 0 ⟨369,28,369,32⟩) ⟨369,15,369,32⟩) (.cons (.ret (.tup (.cons (.cstr "infix" 0 ⟨370,24,370,31⟩) (.cons (.idx (.loc 4 ⟨370,33,370,38⟩) (.cint (0) 0 ⟨370,39,370,40⟩) ⟨370,33,370,41⟩) (.cons (.idx (.loc 4 ⟨370,43,370,48⟩) (.cint (1) 0 ⟨370,49,370,50⟩) ⟨370,43,370,51⟩) .nil))) 0 ⟨370,23,370,52⟩) ⟨370,16,370,52⟩)
  .nil) .nil ⟨369,12,370,52⟩)
  .nil)) .nil ⟨367,8,370,52⟩)
  (.cons (.iff (.cmp .Eq (.bi .len (.cons (.loc 3 ⟨371,15,371,19⟩) .nil) ⟨371,11,371,14⟩ ⟨371,11,371,20⟩) (.cint (1) 0 ⟨371,24,371,25⟩) ⟨371,11,371,25⟩) (.cons (.asg (.nm 4 ⟨372,12,372,17⟩) (.met (.att (.loc 0 ⟨372,20,372,24⟩) 8 ⟨372,20,372,34⟩) 6 (.cons (.loc 2 ⟨372,42,372,46⟩) .nil) ⟨372,20,372,41⟩ ⟨372,20,372,47⟩) ⟨372,12,372,47⟩)
  (.cons (.iff (.cmp .IsNot (.loc 4 ⟨373,15,373,20⟩) (.cnon 0 ⟨373,28,373,32⟩) ⟨373,15,373,32⟩) (.cons (.iff (.bool .And (.cons (.cmp .Eq (.loc 2 ⟨374,19,374,23⟩) (.gv 1 ⟨374,27,374,34⟩) ⟨374,19,374,34⟩) (.cons (.cmp .Eq (.idx (.idx (.loc 3 ⟨374,39,374,43⟩) (.cint (0) 0 ⟨374,44,374,45⟩) ⟨374,39,374,46⟩) (.cint (0) 0 ⟨374,47,374,48⟩) ⟨374,39,374,49⟩) (.cstr "i" 0 ⟨374,53,374,56⟩) ⟨374,39,374,56⟩) (.cons (.cmp .GtE (.idx (.idx (.loc 3 ⟨374,62,374,66⟩) (.cint (0) 0 ⟨374,67,374,68⟩) ⟨374,62,374,69⟩) (.cint (1) 0 ⟨374,70,374,71⟩) ⟨374,62,374,72⟩) (.cint (0) 0 ⟨374,76,374,77⟩) ⟨374,62,374,77⟩) .nil))) ⟨374,19,374,78⟩) (.cons (.ret (.cnon 0 ⟨375,27,375,31⟩) ⟨375,20,375,31⟩)
  .nil) .nil ⟨374,16,375,31⟩)
  (.cons (.ret (.tup (.cons (.cstr "prefix" 0 ⟨376,24,376,32⟩) (.cons (.idx (.loc 4 ⟨376,34,376,39⟩) (.cint (0) 0 ⟨376,40,376,41⟩) ⟨376,34,376,42⟩) (.cons (.idx (.loc 4 ⟨376,44,376,49⟩) (.cint (1) 0 ⟨376,50,376,51⟩) ⟨376,44,376,52⟩) .nil))) 0 ⟨376,23,376,53⟩) ⟨376,16,376,53⟩)
  .nil)) .nil ⟨373,12,376,53⟩)
  (.cons (.asg (.nm 4 ⟨377,12,377,17⟩) (.met (.att (.loc 0 ⟨377,20,377,24⟩) 8 ⟨377,20,377,34⟩) 8 (.cons (.loc 2 ⟨377,43,377,47⟩) .nil) ⟨377,20,377,42⟩ ⟨377,20,377,48⟩) ⟨377,12,377,48⟩)
  (.cons (.iff (.cmp .IsNot (.loc 4 ⟨378,15,378,20⟩) (.cnon 0 ⟨378,28,378,32⟩) ⟨378,15,378,32⟩) (.cons (.ret (.tup (.cons (.cstr "postfix" 0 ⟨379,24,379,33⟩) (.cons (.idx (.loc 4 ⟨379,35,379,40⟩) (.cint (0) 0 ⟨379,41,379,42⟩) ⟨379,35,379,43⟩) (.cons (.idx (.loc 4 ⟨379,45,379,50⟩) (.cint (1) 0 ⟨379,51,379,52⟩) ⟨379,45,379,53⟩) .nil))) 0 ⟨379,23,379,54⟩) ⟨379,16,379,54⟩)
  .nil) .nil ⟨378,12,379,54⟩)
  .nil)))) .nil ⟨371,8,379,54⟩)
  (.cons (.ret (.cnon 0 ⟨380,15,380,19⟩) ⟨380,8,380,19⟩)
  .nil)))))))
noncomputable def sc41 : Scope := ⟨.function, [(Str.ofString "self", .local), (Str.ofString "term", .local), (Str.ofString "name", .local), (Str.ofString "args", .local), (Str.ofString "entry", .local), (Str.ofString "F_DOT", .globalImplicit), (Str.ofString "F_CURLY", .globalImplicit), (Str.ofString "len", .globalImplicit), (Str.ofString "A_MINUS", .globalImplicit)], false, false, []⟩
noncomputable def fh41 : FnI := ⟨434, "", Str.ofString "Writer.shape", sc41, ⟨[], [], none, [], [], none, []⟩, [], ns41, 2, []⟩
noncomputable def ns42 : List String := ["self", "term", "shape", "most", "kind", "priority", "type_text", "left", "right", "name", "args", "rows"]
noncomputable def ir42 : Ss := (.cons (.asg (.tp [(4, ⟨383,8,383,12⟩), (5, ⟨383,14,383,22⟩), (6, ⟨383,24,383,33⟩)] 0 ⟨383,8,383,33⟩) (.loc 2 ⟨383,36,383,41⟩) ⟨383,8,383,41⟩)
  (.cons (.asg (.tp [(7, ⟨384,8,384,12⟩), (8, ⟨384,14,384,19⟩)] 0 ⟨384,8,384,19⟩) (.cal 19 (.cons (.loc 5 ⟨384,29,384,37⟩) (.cons (.loc 6 ⟨384,39,384,48⟩) .nil)) ⟨384,22,384,28⟩ ⟨384,22,384,49⟩) ⟨384,8,384,49⟩)
  (.cons (.asg (.nm 9 ⟨385,8,385,12⟩) (.met (.att (.loc 0 ⟨385,15,385,19⟩) 4 ⟨385,15,385,27⟩) 4 (.cons (.idx (.loc 1 ⟨385,33,385,37⟩) (.cint (1) 0 ⟨385,38,385,39⟩) ⟨385,33,385,40⟩) .nil) ⟨385,15,385,32⟩ ⟨385,15,385,41⟩) ⟨385,8,385,41⟩)
  (.cons (.asg (.nm 10 ⟨386,8,386,12⟩) (.idx (.loc 1 ⟨386,15,386,19⟩) (.cint (2) 0 ⟨386,20,386,21⟩) ⟨386,15,386,22⟩) ⟨386,8,386,22⟩)
  (.cons (.ownN 11 ⟨387,8,387,12⟩ ⟨387,15,387,17⟩ ⟨387,8,387,17⟩)
  (.cons (.iff (.cmp .Gt (.loc 5 ⟨388,11,388,19⟩) (.loc 3 ⟨388,22,388,26⟩) ⟨388,11,388,26⟩) (.cons (.exp (.met (.loc 0 ⟨389,12,389,16⟩) 13 (.cons (.cstr "(" 0 ⟨389,23,389,26⟩) .nil) ⟨389,12,389,22⟩ ⟨389,12,389,27⟩) ⟨389,12,389,27⟩)
  .nil) .nil ⟨388,8,389,27⟩)
  (.cons (.iff (.cmp .Eq (.loc 4 ⟨390,11,390,15⟩) (.cstr "prefix" 0 ⟨390,19,390,27⟩) ⟨390,11,390,27⟩) (.cons (.exp (.met (.loc 0 ⟨391,12,391,16⟩) 24 (.cons (.loc 9 ⟨391,33,391,37⟩) .nil) ⟨391,12,391,32⟩ ⟨391,12,391,38⟩) ⟨391,12,391,38⟩)
  (.cons (.ownA 11 (.tup (.cons (.cstr "term" 0 ⟨392,25,392,31⟩) (.cons (.idx (.loc 10 ⟨392,33,392,37⟩) (.cint (0) 0 ⟨392,38,392,39⟩) ⟨392,33,392,40⟩) (.cons (.loc 8 ⟨392,42,392,47⟩) (.cons (.cboo false 0 ⟨392,49,392,54⟩) .nil)))) 0 ⟨392,24,392,55⟩) ⟨392,12,392,16⟩ ⟨392,12,392,23⟩ ⟨392,12,392,56⟩ ⟨392,12,392,56⟩)
  .nil)) (.cons (.ownA 11 (.tup (.cons (.cstr "term" 0 ⟨394,25,394,31⟩) (.cons (.idx (.loc 10 ⟨394,33,394,37⟩) (.cint (0) 0 ⟨394,38,394,39⟩) ⟨394,33,394,40⟩) (.cons (.met (.loc 0 ⟨394,42,394,46⟩) 23 (.cons (.idx (.loc 10 ⟨394,58,394,62⟩) (.cint (0) 0 ⟨394,63,394,64⟩) ⟨394,58,394,65⟩) (.cons (.loc 5 ⟨394,67,394,75⟩) (.cons (.loc 7 ⟨394,77,394,81⟩) .nil))) ⟨394,42,394,57⟩ ⟨394,42,394,82⟩) (.cons (.cboo false 0 ⟨394,84,394,89⟩) .nil)))) 0 ⟨394,24,394,90⟩) ⟨394,12,394,16⟩ ⟨394,12,394,23⟩ ⟨394,12,394,91⟩ ⟨394,12,394,91⟩)
  (.cons (.ownA 11 (.tup (.cons (.loc 4 ⟨395,25,395,29⟩) (.cons (.loc 9 ⟨395,31,395,35⟩) (.cons (.cint (0) 0 ⟨395,37,395,38⟩) (.cons (.cboo false 0 ⟨395,40,395,45⟩) .nil)))) 0 ⟨395,24,395,46⟩) ⟨395,12,395,16⟩ ⟨395,12,395,23⟩ ⟨395,12,395,47⟩ ⟨395,12,395,47⟩)
  (.cons (.iff (.cmp .Eq (.loc 4 ⟨396,15,396,19⟩) (.cstr "infix" 0 ⟨396,23,396,30⟩) ⟨396,15,396,30⟩) (.cons (.ownA 11 (.tup (.cons (.cstr "term" 0 ⟨397,29,397,35⟩) (.cons (.idx (.loc 10 ⟨397,37,397,41⟩) (.cint (1) 0 ⟨397,42,397,43⟩) ⟨397,37,397,44⟩) (.cons (.loc 8 ⟨397,46,397,51⟩) (.cons (.cboo false 0 ⟨397,53,397,58⟩) .nil)))) 0 ⟨397,28,397,59⟩) ⟨397,16,397,20⟩ ⟨397,16,397,27⟩ ⟨397,16,397,60⟩ ⟨397,16,397,60⟩)
  .nil) .nil ⟨396,12,397,60⟩)
  .nil))) ⟨390,8,397,60⟩)
  (.cons (.iff (.cmp .Gt (.loc 5 ⟨398,11,398,19⟩) (.loc 3 ⟨398,22,398,26⟩) ⟨398,11,398,26⟩) (.cons (.ownA 11 (.tup (.cons (.cstr "raw" 0 ⟨399,25,399,30⟩) (.cons (.cstr ")" 0 ⟨399,32,399,35⟩) (.cons (.cint (0) 0 ⟨399,37,399,38⟩) (.cons (.cboo false 0 ⟨399,40,399,45⟩) .nil)))) 0 ⟨399,24,399,46⟩) ⟨399,12,399,16⟩ ⟨399,12,399,23⟩ ⟨399,12,399,47⟩ ⟨399,12,399,47⟩)
  .nil) .nil ⟨398,8,399,47⟩)
  (.cons (.frz 11)
  (.cons (.exp (.met (.loc 0 ⟨400,8,400,12⟩) 15 (.cons (.loc 11 ⟨400,19,400,23⟩) .nil) ⟨400,8,400,18⟩ ⟨400,8,400,24⟩) ⟨400,8,400,24⟩)
  .nil))))))))))
noncomputable def sc42 : Scope := ⟨.function, [(Str.ofString "self", .local), (Str.ofString "term", .local), (Str.ofString "shape", .local), (Str.ofString "most", .local), (Str.ofString "kind", .local), (Str.ofString "priority", .local), (Str.ofString "type_text", .local), (Str.ofString "left", .local), (Str.ofString "right", .local), (Str.ofString "name", .local), (Str.ofString "args", .local), (Str.ofString "rows", .local), (Str.ofString "bounds", .globalImplicit)], false, false, []⟩
noncomputable def fh42 : FnI := ⟨441, "", Str.ofString "Writer.write_operation", sc42, ⟨[], [], none, [], [], none, []⟩, [], ns42, 4, []⟩
noncomputable def ns43 : List String := ["self", "operand", "priority", "most", "shape"]
noncomputable def ir43 : Ss := (.cons (.asg (.nm 4 ⟨403,8,403,13⟩) (.met (.loc 0 ⟨403,16,403,20⟩) 21 (.cons (.loc 1 ⟨403,27,403,34⟩) .nil) ⟨403,16,403,26⟩ ⟨403,16,403,35⟩) ⟨403,8,403,35⟩)
  (.cons (.iff (.bool .And (.cons (.cmp .IsNot (.loc 4 ⟨404,11,404,16⟩) (.cnon 0 ⟨404,24,404,28⟩) ⟨404,11,404,28⟩) (.cons (.cmp .Eq (.idx (.loc 4 ⟨404,33,404,38⟩) (.cint (1) 0 ⟨404,39,404,40⟩) ⟨404,33,404,41⟩) (.loc 2 ⟨404,45,404,53⟩) ⟨404,33,404,53⟩) (.cons (.cmp .Eq (.idx (.cal 19 (.cons (.idx (.loc 4 ⟨404,66,404,71⟩) (.cint (1) 0 ⟨404,72,404,73⟩) ⟨404,66,404,74⟩) (.cons (.idx (.loc 4 ⟨404,76,404,81⟩) (.cint (2) 0 ⟨404,82,404,83⟩) ⟨404,76,404,84⟩) .nil)) ⟨404,59,404,65⟩ ⟨404,59,404,85⟩) (.cint (1) 0 ⟨404,86,404,87⟩) ⟨404,59,404,88⟩) (.loc 2 ⟨404,92,404,100⟩) ⟨404,59,404,100⟩) .nil))) ⟨404,11,404,101⟩) (.cons (.ret (.bin .sub (.loc 2 ⟨405,19,405,27⟩) (.cint (1) 0 ⟨405,30,405,31⟩) ⟨405,19,405,31⟩) ⟨405,12,405,31⟩)
  .nil) .nil ⟨404,8,405,31⟩)
  (.cons (.ret (.loc 3 ⟨406,15,406,19⟩) ⟨406,8,406,19⟩)
  .nil)))
noncomputable def sc43 : Scope := ⟨.function, [(Str.ofString "self", .local), (Str.ofString "operand", .local), (Str.ofString "priority", .local), (Str.ofString "most", .local), (Str.ofString "shape", .local), (Str.ofString "bounds", .globalImplicit)], false, false, []⟩
noncomputable def fh43 : FnI := ⟨448, "", Str.ofString "Writer.left_limit", sc43, ⟨[], [], none, [], [], none, []⟩, [], ns43, 4, []⟩
noncomputable def ns44 : List String := ["self", "a", "text"]
noncomputable def ir44 : Ss := (.cons (.asg (.nm 2 ⟨409,8,409,12⟩) (.cal 27 (.cons (.att (.loc 0 ⟨409,25,409,29⟩) 4 ⟨409,25,409,37⟩) (.cons (.loc 1 ⟨409,39,409,40⟩) (.cons (.att (.loc 0 ⟨409,42,409,46⟩) 9 ⟨409,42,409,53⟩) .nil))) ⟨409,15,409,24⟩ ⟨409,15,409,54⟩) ⟨409,8,409,54⟩)
  (.cons (.exp (.met (.loc 0 ⟨410,8,410,12⟩) 13 (.cons (.loc 2 ⟨410,19,410,23⟩) .nil) ⟨410,8,410,18⟩ ⟨410,8,410,24⟩) ⟨410,8,410,24⟩)
  (.cons (.iff (.cal 29 (.cons (.loc 2 ⟨411,20,411,24⟩) .nil) ⟨411,11,411,19⟩ ⟨411,11,411,25⟩) (.cons (.asgA (.loc 0 ⟨412,12,412,16⟩) 16 (.cboo true 0 ⟨412,28,412,32⟩) ⟨412,12,412,25⟩ ⟨412,12,412,32⟩)
  .nil) (.cons (.exp (.met (.loc 0 ⟨414,12,414,16⟩) 12 (.cons (.cstr " " 0 ⟨414,21,414,24⟩) .nil) ⟨414,12,414,20⟩ ⟨414,12,414,25⟩) ⟨414,12,414,25⟩)
  .nil) ⟨411,8,414,25⟩)
  .nil)))
noncomputable def sc44 : Scope := ⟨.function, [(Str.ofString "self", .local), (Str.ofString "a", .local), (Str.ofString "text", .local), (Str.ofString "atom_text", .globalImplicit), (Str.ofString "is_tight", .globalImplicit)], false, false, []⟩
noncomputable def fh44 : FnI := ⟨455, "", Str.ofString "Writer.prefix_operator", sc44, ⟨[], [], none, [], [], none, []⟩, [], ns44, 2, []⟩
noncomputable def ns45 : List String := ["self", "a", "text"]
noncomputable def ir45 : Ss := (.cons (.asg (.nm 2 ⟨417,8,417,12⟩) (.cal 27 (.cons (.att (.loc 0 ⟨417,25,417,29⟩) 4 ⟨417,25,417,37⟩) (.cons (.loc 1 ⟨417,39,417,40⟩) (.cons (.att (.loc 0 ⟨417,42,417,46⟩) 9 ⟨417,42,417,53⟩) .nil))) ⟨417,15,417,24⟩ ⟨417,15,417,54⟩) ⟨417,8,417,54⟩)
  (.cons (.iff (.cmp .Eq (.loc 1 ⟨418,11,418,12⟩) (.gv 2 ⟨418,16,418,23⟩) ⟨418,11,418,23⟩) (.cons (.exp (.met (.loc 0 ⟨419,12,419,16⟩) 12 (.cons (.cstr "," 0 ⟨419,21,419,24⟩) .nil) ⟨419,12,419,20⟩ ⟨419,12,419,25⟩) ⟨419,12,419,25⟩)
  .nil) (.cons (.iff (.cmp .Eq (.loc 1 ⟨420,13,420,14⟩) (.gv 3 ⟨420,18,420,23⟩) ⟨420,13,420,23⟩) (.cons (.exp (.met (.loc 0 ⟨421,12,421,16⟩) 12 (.cons (.cstr "|" 0 ⟨421,21,421,24⟩) .nil) ⟨421,12,421,20⟩ ⟨421,12,421,25⟩) ⟨421,12,421,25⟩)
  .nil) (.cons (.iff (.cal 29 (.cons (.loc 2 ⟨422,22,422,26⟩) .nil) ⟨422,13,422,21⟩ ⟨422,13,422,27⟩) (.cons (.exp (.met (.loc 0 ⟨423,12,423,16⟩) 13 (.cons (.loc 2 ⟨423,23,423,27⟩) .nil) ⟨423,12,423,22⟩ ⟨423,12,423,28⟩) ⟨423,12,423,28⟩)
  .nil) (.cons (.exp (.met (.loc 0 ⟨425,12,425,16⟩) 12 (.cons (.cstr " " 0 ⟨425,21,425,24⟩) .nil) ⟨425,12,425,20⟩ ⟨425,12,425,25⟩) ⟨425,12,425,25⟩)
  (.cons (.exp (.met (.loc 0 ⟨426,12,426,16⟩) 12 (.cons (.loc 2 ⟨426,21,426,25⟩) .nil) ⟨426,12,426,20⟩ ⟨426,12,426,26⟩) ⟨426,12,426,26⟩)
  (.cons (.exp (.met (.loc 0 ⟨427,12,427,16⟩) 12 (.cons (.cstr " " 0 ⟨427,21,427,24⟩) .nil) ⟨427,12,427,20⟩ ⟨427,12,427,25⟩) ⟨427,12,427,25⟩)
  .nil))) ⟨422,8,427,25⟩)
  .nil) ⟨420,8,427,25⟩)
  .nil) ⟨418,8,427,25⟩)
  .nil))
noncomputable def sc45 : Scope := ⟨.function, [(Str.ofString "self", .local), (Str.ofString "a", .local), (Str.ofString "text", .local), (Str.ofString "atom_text", .globalImplicit), (Str.ofString "A_COMMA", .globalImplicit), (Str.ofString "A_BAR", .globalImplicit), (Str.ofString "is_tight", .globalImplicit)], false, false, []⟩
noncomputable def fh45 : FnI := ⟨462, "", Str.ofString "Writer.infix_operator", sc45, ⟨[], [], none, [], [], none, []⟩, [], ns45, 2, []⟩
noncomputable def ns46 : List String := ["self", "a", "text"]
noncomputable def ir46 : Ss := (.cons (.asg (.nm 2 ⟨430,8,430,12⟩) (.cal 27 (.cons (.att (.loc 0 ⟨430,25,430,29⟩) 4 ⟨430,25,430,37⟩) (.cons (.loc 1 ⟨430,39,430,40⟩) (.cons (.att (.loc 0 ⟨430,42,430,46⟩) 9 ⟨430,42,430,53⟩) .nil))) ⟨430,15,430,24⟩ ⟨430,15,430,54⟩) ⟨430,8,430,54⟩)
  (.cons (.iff (.cal 29 (.cons (.loc 2 ⟨431,20,431,24⟩) .nil) ⟨431,11,431,19⟩ ⟨431,11,431,25⟩) (.cons (.exp (.met (.loc 0 ⟨432,12,432,16⟩) 13 (.cons (.loc 2 ⟨432,23,432,27⟩) .nil) ⟨432,12,432,22⟩ ⟨432,12,432,28⟩) ⟨432,12,432,28⟩)
  .nil) (.cons (.exp (.met (.loc 0 ⟨434,12,434,16⟩) 12 (.cons (.cstr " " 0 ⟨434,21,434,24⟩) .nil) ⟨434,12,434,20⟩ ⟨434,12,434,25⟩) ⟨434,12,434,25⟩)
  (.cons (.exp (.met (.loc 0 ⟨435,12,435,16⟩) 12 (.cons (.loc 2 ⟨435,21,435,25⟩) .nil) ⟨435,12,435,20⟩ ⟨435,12,435,26⟩) ⟨435,12,435,26⟩)
  .nil)) ⟨431,8,435,26⟩)
  .nil))
noncomputable def sc46 : Scope := ⟨.function, [(Str.ofString "self", .local), (Str.ofString "a", .local), (Str.ofString "text", .local), (Str.ofString "atom_text", .globalImplicit), (Str.ofString "is_tight", .globalImplicit)], false, false, []⟩
noncomputable def fh46 : FnI := ⟨469, "", Str.ofString "Writer.postfix_operator", sc46, ⟨[], [], none, [], [], none, []⟩, [], ns46, 2, []⟩
noncomputable def ns47 : List String := ["script", "row", "cell", "rest", "turn"]
noncomputable def ir47 : Ss := (.cons (.asg (.nm 1 ⟨438,4,438,7⟩) (.newl ⟨438,10,438,12⟩) ⟨438,4,438,12⟩)
  (.cons (.for_ (.nm 2 ⟨439,8,439,12⟩) .over (.slcTo (.loc 0 ⟨439,16,439,22⟩) (.cint (40) 0 ⟨439,24,439,26⟩) ⟨439,23,439,26⟩ ⟨439,16,439,27⟩) (.cons (.asg (.nm 3 ⟨440,8,440,12⟩) (.bi .int (.cons (.loc 2 ⟨440,19,440,23⟩) .nil) ⟨440,15,440,18⟩ ⟨440,15,440,24⟩) ⟨440,8,440,24⟩)
  (.cons (.for_ (.nm 4 ⟨441,12,441,16⟩) (.range ⟨441,20,441,25⟩ ⟨441,20,441,49⟩) (.bi .min (.cons (.cint (30) 0 ⟨441,30,441,32⟩) (.cons (.bin .sub (.cint (90) 0 ⟨441,34,441,36⟩) (.bi .len (.cons (.loc 1 ⟨441,43,441,46⟩) .nil) ⟨441,39,441,42⟩ ⟨441,39,441,47⟩) ⟨441,34,441,47⟩) .nil)) ⟨441,26,441,29⟩ ⟨441,26,441,48⟩) (.cons (.exp (.mb (.loc 1 ⟨442,12,442,15⟩) .append (.cons (.bin .mod (.loc 3 ⟨442,23,442,27⟩) (.cint (96) 0 ⟨442,30,442,32⟩) ⟨442,23,442,32⟩) .nil) ⟨442,12,442,22⟩ ⟨442,12,442,33⟩) ⟨442,12,442,33⟩)
  (.cons (.asg (.nm 3 ⟨443,12,443,16⟩) (.bin .fdiv (.loc 3 ⟨443,19,443,23⟩) (.cint (96) 0 ⟨443,27,443,29⟩) ⟨443,19,443,29⟩) ⟨443,12,443,29⟩)
  (.cons (.iff (.bool .Or (.cons (.cmp .Eq (.loc 3 ⟨444,15,444,19⟩) (.cint (0) 0 ⟨444,23,444,24⟩) ⟨444,15,444,24⟩) (.cons (.cmp .Eq (.loc 3 ⟨444,28,444,32⟩) (.neg (.cint (1) 0 ⟨444,37,444,38⟩) ⟨444,36,444,38⟩) ⟨444,28,444,38⟩) .nil)) ⟨444,15,444,38⟩) (.cons (.brk ⟨445,16,445,21⟩)
  .nil) .nil ⟨444,12,445,21⟩)
  .nil))) ⟨441,8,445,21⟩)
  .nil)) ⟨439,4,445,21⟩)
  (.cons (.exp (.mb (.loc 1 ⟨446,4,446,7⟩) .reverse .nil ⟨446,4,446,15⟩ ⟨446,4,446,17⟩) ⟨446,4,446,17⟩)
  (.cons (.ret (.loc 1 ⟨447,11,447,14⟩) ⟨447,4,447,14⟩)
  .nil))))
noncomputable def sc47 : Scope := ⟨.function, [(Str.ofString "script", .local), (Str.ofString "row", .local), (Str.ofString "cell", .local), (Str.ofString "rest", .local), (Str.ofString "turn", .local), (Str.ofString "int", .globalImplicit), (Str.ofString "range", .globalImplicit), (Str.ofString "min", .globalImplicit), (Str.ofString "len", .globalImplicit)], false, false, []⟩
noncomputable def fh47 : FnI := ⟨483, "_law_row", Str.ofString "_law_row", sc47, ⟨[], [], none, [], [], none, []⟩, [], ns47, 1, []⟩
noncomputable def ns48 : List String := ["row", "many"]
noncomputable def ir48 : Ss := (.cons (.ret (.ite (.cmp .Gt (.bi .len (.cons (.loc 0 ⟨449,35,449,38⟩) .nil) ⟨449,31,449,34⟩ ⟨449,31,449,39⟩) (.cint (0) 0 ⟨449,42,449,43⟩) ⟨449,31,449,43⟩) (.bin .mod (.mb (.loc 0 ⟨449,11,449,14⟩) .pop .nil ⟨449,11,449,18⟩ ⟨449,11,449,20⟩) (.loc 1 ⟨449,23,449,27⟩) ⟨449,11,449,27⟩) (.cint (0) 0 ⟨449,49,449,50⟩) ⟨449,11,449,50⟩) ⟨449,4,449,50⟩)
  .nil)
noncomputable def sc48 : Scope := ⟨.function, [(Str.ofString "row", .local), (Str.ofString "many", .local), (Str.ofString "len", .globalImplicit)], false, false, []⟩
noncomputable def fh48 : FnI := ⟨490, "_law_next", Str.ofString "_law_next", sc48, ⟨[], [], none, [], [], none, []⟩, [], ns48, 2, []⟩
noncomputable def ns49 : List String := ["line", "needed"]
noncomputable def ir49 : Ss := (.cons (.ret (.ite (.loc 1 ⟨451,31,451,37⟩) (.bin .add (.bin .add (.cstr "(" 0 ⟨451,11,451,14⟩) (.loc 0 ⟨451,17,451,21⟩) ⟨451,11,451,21⟩) (.cstr ")" 0 ⟨451,24,451,27⟩) ⟨451,11,451,27⟩) (.loc 0 ⟨451,43,451,47⟩) ⟨451,11,451,47⟩) ⟨451,4,451,47⟩)
  .nil)
noncomputable def sc49 : Scope := ⟨.function, [(Str.ofString "line", .local), (Str.ofString "needed", .local)], false, false, []⟩
noncomputable def fh49 : FnI := ⟨497, "_law_held", Str.ofString "_law_held", sc49, ⟨[], [], none, [], [], none, []⟩, [], ns49, 2, []⟩
noncomputable def ns50 : List String := ["word", "line"]
noncomputable def ir50 : Ss := (.cons (.iff (.cmp .In (.loc 0 ⟨453,7,453,11⟩) (.lst (.cons (.cstr "foo" 0 ⟨453,16,453,21⟩) (.cons (.cstr "yes" 0 ⟨453,23,453,28⟩) .nil)) ⟨453,15,453,29⟩) ⟨453,7,453,29⟩) (.cons (.ret (.bin .add (.bin .add (.loc 0 ⟨454,15,454,19⟩) (.cstr " " 0 ⟨454,22,454,25⟩) ⟨454,15,454,25⟩) (.loc 1 ⟨454,28,454,32⟩) ⟨454,15,454,32⟩) ⟨454,8,454,32⟩)
  .nil) .nil ⟨453,4,454,32⟩)
  (.cons (.ret (.bin .add (.loc 0 ⟨455,11,455,15⟩) (.ite (.cmp .In (.idx (.loc 1 ⟨455,33,455,37⟩) (.cint (0) 0 ⟨455,38,455,39⟩) ⟨455,33,455,40⟩) (.cstr "-~" 0 ⟨455,44,455,48⟩) ⟨455,33,455,48⟩) (.bin .add (.cstr " " 0 ⟨455,19,455,22⟩) (.loc 1 ⟨455,25,455,29⟩) ⟨455,19,455,29⟩) (.loc 1 ⟨455,54,455,58⟩) ⟨455,19,455,58⟩) ⟨455,11,455,59⟩) ⟨455,4,455,59⟩)
  .nil))
noncomputable def sc50 : Scope := ⟨.function, [(Str.ofString "word", .local), (Str.ofString "line", .local)], false, false, []⟩
noncomputable def fh50 : FnI := ⟨504, "_law_after", Str.ofString "_law_after", sc50, ⟨[], [], none, [], [], none, []⟩, [], ns50, 2, []⟩
noncomputable def ns51 : List String := ["line", "word"]
noncomputable def ir51 : Ss := (.cons (.iff (.cmp .In (.loc 1 ⟨457,7,457,11⟩) (.lst (.cons (.cstr "foo" 0 ⟨457,16,457,21⟩) (.cons (.cstr "yes" 0 ⟨457,23,457,28⟩) .nil)) ⟨457,15,457,29⟩) ⟨457,7,457,29⟩) (.cons (.ret (.bin .add (.bin .add (.loc 0 ⟨458,15,458,19⟩) (.cstr " " 0 ⟨458,22,458,25⟩) ⟨458,15,458,25⟩) (.loc 1 ⟨458,28,458,32⟩) ⟨458,15,458,32⟩) ⟨458,8,458,32⟩)
  .nil) .nil ⟨457,4,458,32⟩)
  (.cons (.ret (.bin .add (.ite (.cmp .In (.idx (.loc 0 ⟨459,26,459,30⟩) (.neg (.cint (1) 0 ⟨459,32,459,33⟩) ⟨459,31,459,33⟩) ⟨459,26,459,34⟩) (.cstr "-~" 0 ⟨459,38,459,42⟩) ⟨459,26,459,42⟩) (.bin .add (.loc 0 ⟨459,12,459,16⟩) (.cstr " " 0 ⟨459,19,459,22⟩) ⟨459,12,459,22⟩) (.loc 0 ⟨459,48,459,52⟩) ⟨459,12,459,52⟩) (.loc 1 ⟨459,56,459,60⟩) ⟨459,11,459,60⟩) ⟨459,4,459,60⟩)
  .nil))
noncomputable def sc51 : Scope := ⟨.function, [(Str.ofString "line", .local), (Str.ofString "word", .local)], false, false, []⟩
noncomputable def fh51 : FnI := ⟨511, "_law_ahead", Str.ofString "_law_ahead", sc51, ⟨[], [], none, [], [], none, []⟩, [], ns51, 2, []⟩
noncomputable def gt0 : List (String × D) := [("A_NIL", (.int (0))), ("A_MINUS", (.int (3))), ("A_COMMA", (.int (7))), ("A_BAR", (.int (8))), ("F_DOT", (.int (0))), ("F_CURLY", (.int (9))), ("F_VARNAME", (.int (17))), ("COMMA_PRIORITY", (.int (1000))), ("PREFIX_TYPES", (.tup [(.str (codes "fx")), (.str (codes "fy"))])), ("INFIX_TYPES", (.tup [(.str (codes "xfx")), (.str (codes "xfy")), (.str (codes "yfx"))])), ("POSTFIX_TYPES", (.tup [(.str (codes "xf")), (.str (codes "yf"))])), ("WHOLE_PRIORITY", (.int (1201))), ("ARGUMENT_PRIORITY", (.int (999)))]
noncomputable def P1 : Pg := ⟨gt0, [fh0, fh1, fh2, fh3, fh4, fh5, fh6, fh7, fh8, fh9, fh10, fh11, fh12, fh13, fh14, fh15, fh16, fh17, fh18, fh19, fh20, fh21, fh22, fh23, fh24, fh25, fh26, fh27, fh28, fh29, fh30, fh31, fh32, fh33, fh34, fh35, fh36, fh37, fh38, fh39, fh40, fh41, fh42, fh43, fh44, fh45, fh46, fh47, fh48, fh49, fh50, fh51], [122, 287, 472], ["Symbols", "OperatorTable", "Writer"], ["texts", "atom_numbers", "functors", "functor_numbers", "symbols", "prefixes", "infixes", "postfixes", "operators", "quoted", "ignore_ops", "numbervars", "names", "taken", "out", "last", "prefixed", "work"], ["atom", "text", "functor", "func", "name", "arity", "prefix", "infix", "postfix", "is_operator", "table_of", "add", "raw", "token", "needs_space", "later", "write", "is_numbered", "write_atom", "write_list", "write_functional", "shape", "write_operation", "left_limit", "prefix_operator", "infix_operator", "postfix_operator"], [[(0, 3), (1, 4), (2, 5), (3, 6), (4, 7), (5, 8)], [(6, 21), (7, 22), (8, 23), (9, 24), (10, 25), (11, 26)], [(1, 31), (12, 32), (13, 33), (14, 34), (15, 35), (16, 36), (17, 37), (18, 38), (19, 39), (20, 40), (21, 41), (22, 42), (23, 43), (24, 44), (25, 45), (26, 46)]], [2, 20, 30]⟩
noncomputable def fi0 : FnI := { fh0 with body := toSs P1 ns0 ir0 }
noncomputable def fi1 : FnI := { fh1 with body := toSs P1 ns1 ir1 }
noncomputable def fi2 : FnI := { fh2 with body := toSs P1 ns2 ir2 }
noncomputable def fi3 : FnI := { fh3 with body := toSs P1 ns3 ir3 }
noncomputable def fi4 : FnI := { fh4 with body := toSs P1 ns4 ir4 }
noncomputable def fi5 : FnI := { fh5 with body := toSs P1 ns5 ir5 }
noncomputable def fi6 : FnI := { fh6 with body := toSs P1 ns6 ir6 }
noncomputable def fi7 : FnI := { fh7 with body := toSs P1 ns7 ir7 }
noncomputable def fi8 : FnI := { fh8 with body := toSs P1 ns8 ir8 }
noncomputable def fi9 : FnI := { fh9 with body := toSs P1 ns9 ir9 }
noncomputable def fi10 : FnI := { fh10 with body := toSs P1 ns10 ir10 }
noncomputable def fi11 : FnI := { fh11 with body := toSs P1 ns11 ir11 }
noncomputable def fi12 : FnI := { fh12 with body := toSs P1 ns12 ir12 }
noncomputable def fi13 : FnI := { fh13 with body := toSs P1 ns13 ir13 }
noncomputable def fi14 : FnI := { fh14 with body := toSs P1 ns14 ir14 }
noncomputable def fi15 : FnI := { fh15 with body := toSs P1 ns15 ir15 }
noncomputable def fi16 : FnI := { fh16 with body := toSs P1 ns16 ir16 }
noncomputable def fi17 : FnI := { fh17 with body := toSs P1 ns17 ir17 }
noncomputable def fi18 : FnI := { fh18 with body := toSs P1 ns18 ir18 }
noncomputable def fi19 : FnI := { fh19 with body := toSs P1 ns19 ir19 }
noncomputable def fi20 : FnI := { fh20 with body := toSs P1 ns20 ir20 }
noncomputable def fi21 : FnI := { fh21 with body := toSs P1 ns21 ir21 }
noncomputable def fi22 : FnI := { fh22 with body := toSs P1 ns22 ir22 }
noncomputable def fi23 : FnI := { fh23 with body := toSs P1 ns23 ir23 }
noncomputable def fi24 : FnI := { fh24 with body := toSs P1 ns24 ir24 }
noncomputable def fi25 : FnI := { fh25 with body := toSs P1 ns25 ir25 }
noncomputable def fi26 : FnI := { fh26 with body := toSs P1 ns26 ir26 }
noncomputable def fi27 : FnI := { fh27 with body := toSs P1 ns27 ir27 }
noncomputable def fi28 : FnI := { fh28 with body := toSs P1 ns28 ir28 }
noncomputable def fi29 : FnI := { fh29 with body := toSs P1 ns29 ir29 }
noncomputable def fi30 : FnI := { fh30 with body := toSs P1 ns30 ir30 }
noncomputable def fi31 : FnI := { fh31 with body := toSs P1 ns31 ir31 }
noncomputable def fi32 : FnI := { fh32 with body := toSs P1 ns32 ir32 }
noncomputable def fi33 : FnI := { fh33 with body := toSs P1 ns33 ir33 }
noncomputable def fi34 : FnI := { fh34 with body := toSs P1 ns34 ir34 }
noncomputable def fi35 : FnI := { fh35 with body := toSs P1 ns35 ir35 }
noncomputable def fi36 : FnI := { fh36 with body := toSs P1 ns36 ir36 }
noncomputable def fi37 : FnI := { fh37 with body := toSs P1 ns37 ir37 }
noncomputable def fi38 : FnI := { fh38 with body := toSs P1 ns38 ir38 }
noncomputable def fi39 : FnI := { fh39 with body := toSs P1 ns39 ir39 }
noncomputable def fi40 : FnI := { fh40 with body := toSs P1 ns40 ir40 }
noncomputable def fi41 : FnI := { fh41 with body := toSs P1 ns41 ir41 }
noncomputable def fi42 : FnI := { fh42 with body := toSs P1 ns42 ir42 }
noncomputable def fi43 : FnI := { fh43 with body := toSs P1 ns43 ir43 }
noncomputable def fi44 : FnI := { fh44 with body := toSs P1 ns44 ir44 }
noncomputable def fi45 : FnI := { fh45 with body := toSs P1 ns45 ir45 }
noncomputable def fi46 : FnI := { fh46 with body := toSs P1 ns46 ir46 }
noncomputable def fi47 : FnI := { fh47 with body := toSs P1 ns47 ir47 }
noncomputable def fi48 : FnI := { fh48 with body := toSs P1 ns48 ir48 }
noncomputable def fi49 : FnI := { fh49 with body := toSs P1 ns49 ir49 }
noncomputable def fi50 : FnI := { fh50 with body := toSs P1 ns50 ir50 }
noncomputable def fi51 : FnI := { fh51 with body := toSs P1 ns51 ir51 }
noncomputable def P0 : Pg := { P1 with fns := [fi0, fi1, fi2, fi3, fi4, fi5, fi6, fi7, fi8, fi9, fi10, fi11, fi12, fi13, fi14, fi15, fi16, fi17, fi18, fi19, fi20, fi21, fi22, fi23, fi24, fi25, fi26, fi27, fi28, fi29, fi30, fi31, fi32, fi33, fi34, fi35, fi36, fi37, fi38, fi39, fi40, fi41, fi42, fi43, fi44, fi45, fi46, fi47, fi48, fi49, fi50, fi51] }
noncomputable def irs0 : List Ss := [ir0, ir1, ir2, ir3, ir4, ir5, ir6, ir7, ir8, ir9, ir10, ir11, ir12, ir13, ir14, ir15, ir16, ir17, ir18, ir19, ir20, ir21, ir22, ir23, ir24, ir25, ir26, ir27, ir28, ir29, ir30, ir31, ir32, ir33, ir34, ir35, ir36, ir37, ir38, ir39, ir40, ir41, ir42, ir43, ir44, ir45, ir46, ir47, ir48, ir49, ir50, ir51]
noncomputable def nsL : List String := ["script", "row", "names", "table", "signs", "word", "kinds", "kind", "height", "most", "leaf", "term", "line", "tall", "reach", "listed", "due", "turn", "way", "left", "right", "on_left", "on_right", "inner", "scribe"]
noncomputable def irL : Ss := (.cons (.asg (.nm 1 ⟨461,4,461,7⟩) (.cal 47 (.cons (.loc 0 ⟨461,19,461,25⟩) .nil) ⟨461,10,461,18⟩ ⟨461,10,461,26⟩) ⟨461,4,461,26⟩)
  (.cons (.asg (.nm 2 ⟨462,4,462,9⟩) (.new 0 .nil ⟨462,12,462,19⟩ ⟨462,12,462,21⟩) ⟨462,4,462,21⟩)
  (.cons (.asg (.nm 3 ⟨463,4,463,9⟩) (.new 1 (.cons (.loc 2 ⟨463,26,463,31⟩) (.cons (.cboo false 0 ⟨463,33,463,38⟩) .nil)) ⟨463,12,463,25⟩ ⟨463,12,463,39⟩) ⟨463,4,463,39⟩)
  (.cons (.ownN 4 ⟨464,4,464,9⟩ ⟨464,12,464,14⟩ ⟨464,4,464,14⟩)
  (.cons (.for_ (.tp [(5, ⟨465,8,465,12⟩), (6, ⟨465,14,465,19⟩)] 0 ⟨465,8,465,19⟩) .over (.lst (.cons (.tup (.cons (.cstr "-" 0 ⟨465,25,465,28⟩) (.cons (.lst (.cons (.cstr "yfx" 0 ⟨465,31,465,36⟩) (.cons (.cstr "xfy" 0 ⟨465,38,465,43⟩) (.cons (.cstr "xfx" 0 ⟨465,45,465,50⟩) .nil))) ⟨465,30,465,51⟩) .nil)) 0 ⟨465,24,465,52⟩) (.cons (.tup (.cons (.cstr "foo" 0 ⟨465,55,465,60⟩) (.cons (.lst (.cons (.cstr "yfx" 0 ⟨465,63,465,68⟩) (.cons (.cstr "xfy" 0 ⟨465,70,465,75⟩) (.cons (.cstr "xfx" 0 ⟨465,77,465,82⟩) .nil))) ⟨465,62,465,83⟩) .nil)) 0 ⟨465,54,465,84⟩) (.cons (.tup (.cons (.cstr "-" 0 ⟨465,87,465,90⟩) (.cons (.lst (.cons (.cstr "fy" 0 ⟨465,93,465,97⟩) (.cons (.cstr "fx" 0 ⟨465,99,465,103⟩) .nil)) ⟨465,92,465,104⟩) .nil)) 0 ⟨465,86,465,105⟩) (.cons (.tup (.cons (.cstr "foo" 0 ⟨465,108,465,113⟩) (.cons (.lst (.cons (.cstr "fy" 0 ⟨465,116,465,120⟩) (.cons (.cstr "fx" 0 ⟨465,122,465,126⟩) .nil)) ⟨465,115,465,127⟩) .nil)) 0 ⟨465,107,465,128⟩) (.cons (.tup (.cons (.cstr "~" 0 ⟨465,131,465,134⟩) (.cons (.lst (.cons (.cstr "yf" 0 ⟨465,137,465,141⟩) (.cons (.cstr "xf" 0 ⟨465,143,465,147⟩) .nil)) ⟨465,136,465,148⟩) .nil)) 0 ⟨465,130,465,149⟩) (.cons (.tup (.cons (.cstr "yes" 0 ⟨465,152,465,157⟩) (.cons (.lst (.cons (.cstr "yf" 0 ⟨465,160,465,164⟩) (.cons (.cstr "xf" 0 ⟨465,166,465,170⟩) .nil)) ⟨465,159,465,171⟩) .nil)) 0 ⟨465,151,465,172⟩) .nil)))))) ⟨465,23,465,173⟩) (.cons (.asg (.nm 7 ⟨466,8,466,12⟩) (.idx (.loc 6 ⟨466,15,466,20⟩) (.cal 48 (.cons (.loc 1 ⟨466,31,466,34⟩) (.cons (.bi .len (.cons (.loc 6 ⟨466,40,466,45⟩) .nil) ⟨466,36,466,39⟩ ⟨466,36,466,46⟩) .nil)) ⟨466,21,466,30⟩ ⟨466,21,466,47⟩) ⟨466,15,466,48⟩) ⟨466,8,466,48⟩)
  (.cons (.asg (.nm 8 ⟨467,8,467,14⟩) (.idx (.lst (.cons (.cint (500) 0 ⟨467,18,467,21⟩) (.cons (.cint (499) 0 ⟨467,23,467,26⟩) (.cons (.cint (1000) 0 ⟨467,28,467,32⟩) (.cons (.cint (1200) 0 ⟨467,34,467,38⟩) (.cons (.cint (1) 0 ⟨467,40,467,41⟩) .nil))))) ⟨467,17,467,42⟩) (.cal 48 (.cons (.loc 1 ⟨467,53,467,56⟩) (.cons (.cint (5) 0 ⟨467,58,467,59⟩) .nil)) ⟨467,43,467,52⟩ ⟨467,43,467,60⟩) ⟨467,17,467,61⟩) ⟨467,8,467,61⟩)
  (.cons (.ownA 4 (.tup (.cons (.loc 5 ⟨468,22,468,26⟩) (.cons (.loc 7 ⟨468,28,468,32⟩) (.cons (.loc 8 ⟨468,34,468,40⟩) .nil))) 0 ⟨468,21,468,41⟩) ⟨468,8,468,13⟩ ⟨468,8,468,20⟩ ⟨468,8,468,42⟩ ⟨468,8,468,42⟩)
  (.cons (.exp (.met (.loc 3 ⟨469,8,469,13⟩) 11 (.cons (.loc 8 ⟨469,18,469,24⟩) (.cons (.loc 7 ⟨469,26,469,30⟩) (.cons (.met (.loc 2 ⟨469,32,469,37⟩) 0 (.cons (.loc 5 ⟨469,43,469,47⟩) .nil) ⟨469,32,469,42⟩ ⟨469,32,469,48⟩) .nil))) ⟨469,8,469,17⟩ ⟨469,8,469,49⟩) ⟨469,8,469,49⟩)
  .nil)))) ⟨465,4,469,49⟩)
  (.cons (.frz 4)
  (.cons (.asg (.nm 9 ⟨470,4,470,8⟩) (.idx (.lst (.cons (.cint (1201) 0 ⟨470,12,470,16⟩) (.cons (.cint (1200) 0 ⟨470,18,470,22⟩) (.cons (.cint (999) 0 ⟨470,24,470,27⟩) (.cons (.cint (500) 0 ⟨470,29,470,32⟩) (.cons (.cint (0) 0 ⟨470,34,470,35⟩) .nil))))) ⟨470,11,470,36⟩) (.cal 48 (.cons (.loc 1 ⟨470,47,470,50⟩) (.cons (.cint (5) 0 ⟨470,52,470,53⟩) .nil)) ⟨470,37,470,46⟩ ⟨470,37,470,54⟩) ⟨470,11,470,55⟩) ⟨470,4,470,55⟩)
  (.cons (.asg (.nm 10 ⟨471,4,471,8⟩) (.tup (.cons (.cstr "a" 0 ⟨471,12,471,15⟩) (.cons (.met (.loc 2 ⟨471,17,471,22⟩) 0 (.cons (.cstr "b" 0 ⟨471,28,471,31⟩) .nil) ⟨471,17,471,27⟩ ⟨471,17,471,32⟩) .nil)) 0 ⟨471,11,471,33⟩) ⟨471,4,471,33⟩)
  (.cons (.asg (.nm 11 ⟨472,4,472,8⟩) (.loc 10 ⟨472,11,472,15⟩) ⟨472,4,472,15⟩)
  (.cons (.asg (.nm 12 ⟨473,4,473,8⟩) (.cstr "b" 0 ⟨473,11,473,14⟩) ⟨473,4,473,14⟩)
  (.cons (.asg (.nm 13 ⟨474,4,474,8⟩) (.cint (0) 0 ⟨474,11,474,12⟩) ⟨474,4,474,12⟩)
  (.cons (.asg (.nm 14 ⟨475,4,475,9⟩) (.cint (0) 0 ⟨475,12,475,13⟩) ⟨475,4,475,13⟩)
  (.cons (.asg (.nm 15 ⟨476,4,476,10⟩) (.cboo false 0 ⟨476,13,476,18⟩) ⟨476,4,476,18⟩)
  (.cons (.asg (.nm 16 ⟨477,4,477,7⟩) (.cnon 0 ⟨477,10,477,14⟩) ⟨477,4,477,14⟩)
  (.cons (.for_ (.nm 17 ⟨478,8,478,12⟩) (.range ⟨478,16,478,21⟩ ⟨478,16,478,45⟩) (.bin .add (.cint (1) 0 ⟨478,22,478,23⟩) (.cal 48 (.cons (.loc 1 ⟨478,36,478,39⟩) (.cons (.cint (40) 0 ⟨478,41,478,43⟩) .nil)) ⟨478,26,478,35⟩ ⟨478,26,478,44⟩) ⟨478,22,478,44⟩) (.cons (.asg (.nm 18 ⟨479,8,479,11⟩) (.cal 48 (.cons (.loc 1 ⟨479,24,479,27⟩) (.cons (.cint (9) 0 ⟨479,29,479,30⟩) .nil)) ⟨479,14,479,23⟩ ⟨479,14,479,31⟩) ⟨479,8,479,31⟩)
  (.cons (.iff (.cmp .Lt (.loc 18 ⟨480,11,480,14⟩) (.cint (6) 0 ⟨480,17,480,18⟩) ⟨480,11,480,18⟩) (.cons (.asg (.tp [(5, ⟨481,12,481,16⟩), (7, ⟨481,18,481,22⟩), (8, ⟨481,24,481,30⟩)] 0 ⟨481,12,481,30⟩) (.idx (.loc 4 ⟨481,33,481,38⟩) (.loc 18 ⟨481,39,481,42⟩) ⟨481,33,481,43⟩) ⟨481,12,481,43⟩)
  (.cons (.asg (.nm 19 ⟨482,12,482,16⟩) (.ite (.cmp .Eq (.idx (.loc 7 ⟨482,29,482,33⟩) (.cint (0) 0 ⟨482,34,482,35⟩) ⟨482,29,482,36⟩) (.cstr "y" 0 ⟨482,40,482,43⟩) ⟨482,29,482,43⟩) (.loc 8 ⟨482,19,482,25⟩) (.bin .sub (.loc 8 ⟨482,49,482,55⟩) (.cint (1) 0 ⟨482,58,482,59⟩) ⟨482,49,482,59⟩) ⟨482,19,482,59⟩) ⟨482,12,482,59⟩)
  (.cons (.asg (.nm 20 ⟨483,12,483,17⟩) (.ite (.cmp .Eq (.idx (.loc 7 ⟨483,30,483,34⟩) (.neg (.cint (1) 0 ⟨483,36,483,37⟩) ⟨483,35,483,37⟩) ⟨483,30,483,38⟩) (.cstr "y" 0 ⟨483,42,483,45⟩) ⟨483,30,483,45⟩) (.loc 8 ⟨483,20,483,26⟩) (.bin .sub (.loc 8 ⟨483,51,483,57⟩) (.cint (1) 0 ⟨483,60,483,61⟩) ⟨483,51,483,61⟩) ⟨483,20,483,61⟩) ⟨483,12,483,61⟩)
  (.cons (.asg (.nm 21 ⟨484,12,484,19⟩) (.cal 49 (.cons (.loc 12 ⟨484,32,484,36⟩) (.cons (.bool .Or (.cons (.cmp .Gt (.loc 13 ⟨484,38,484,42⟩) (.loc 19 ⟨484,45,484,49⟩) ⟨484,38,484,49⟩) (.cons (.cmp .GtE (.loc 14 ⟨484,53,484,58⟩) (.loc 8 ⟨484,62,484,68⟩) ⟨484,53,484,68⟩) .nil)) ⟨484,38,484,68⟩) .nil)) ⟨484,22,484,31⟩ ⟨484,22,484,69⟩) ⟨484,12,484,69⟩)
  (.cons (.asg (.nm 22 ⟨485,12,485,20⟩) (.cal 49 (.cons (.loc 12 ⟨485,33,485,37⟩) (.cons (.cmp .Gt (.loc 13 ⟨485,39,485,43⟩) (.loc 20 ⟨485,46,485,51⟩) ⟨485,39,485,51⟩) .nil)) ⟨485,23,485,32⟩ ⟨485,23,485,52⟩) ⟨485,12,485,52⟩)
  (.cons (.iff (.cmp .Gt (.loc 18 ⟨486,15,486,18⟩) (.cint (3) 0 ⟨486,21,486,22⟩) ⟨486,15,486,22⟩) (.cons (.asg (.nm 11 ⟨487,16,487,20⟩) (.tup (.cons (.cstr "s" 0 ⟨487,24,487,27⟩) (.cons (.met (.loc 2 ⟨487,29,487,34⟩) 3 (.cons (.loc 5 ⟨487,40,487,44⟩) (.cons (.cint (1) 0 ⟨487,46,487,47⟩) .nil)) ⟨487,29,487,39⟩ ⟨487,29,487,48⟩) (.cons (.tup (.cons (.loc 11 ⟨487,51,487,55⟩) .nil) 0 ⟨487,50,487,57⟩) .nil))) 0 ⟨487,23,487,58⟩) ⟨487,16,487,58⟩)
  (.cons (.asg (.nm 12 ⟨488,16,488,20⟩) (.cal 51 (.cons (.loc 21 ⟨488,34,488,41⟩) (.cons (.loc 5 ⟨488,43,488,47⟩) .nil)) ⟨488,23,488,33⟩ ⟨488,23,488,48⟩) ⟨488,16,488,48⟩)
  (.cons (.asg (.nm 20 ⟨489,16,489,21⟩) (.cint (0) 0 ⟨489,24,489,25⟩) ⟨489,16,489,25⟩)
  .nil))) (.cons (.iff (.cmp .Gt (.loc 18 ⟨490,17,490,20⟩) (.cint (1) 0 ⟨490,23,490,24⟩) ⟨490,17,490,24⟩) (.cons (.asg (.nm 11 ⟨491,16,491,20⟩) (.tup (.cons (.cstr "s" 0 ⟨491,24,491,27⟩) (.cons (.met (.loc 2 ⟨491,29,491,34⟩) 3 (.cons (.loc 5 ⟨491,40,491,44⟩) (.cons (.cint (1) 0 ⟨491,46,491,47⟩) .nil)) ⟨491,29,491,39⟩ ⟨491,29,491,48⟩) (.cons (.tup (.cons (.loc 11 ⟨491,51,491,55⟩) .nil) 0 ⟨491,50,491,57⟩) .nil))) 0 ⟨491,23,491,58⟩) ⟨491,16,491,58⟩)
  (.cons (.asg (.nm 12 ⟨492,16,492,20⟩) (.ite (.bool .And (.cons (.cmp .Eq (.loc 5 ⟨492,42,492,46⟩) (.cstr "-" 0 ⟨492,50,492,53⟩) ⟨492,42,492,53⟩) (.cons (.cmp .Eq (.idx (.loc 22 ⟨492,58,492,66⟩) (.cint (0) 0 ⟨492,67,492,68⟩) ⟨492,58,492,69⟩) (.cstr "(" 0 ⟨492,73,492,76⟩) ⟨492,58,492,76⟩) .nil)) ⟨492,42,492,76⟩) (.bin .add (.cstr "- " 0 ⟨492,23,492,27⟩) (.loc 22 ⟨492,30,492,38⟩) ⟨492,23,492,38⟩) (.cal 50 (.cons (.loc 5 ⟨492,93,492,97⟩) (.cons (.loc 22 ⟨492,99,492,107⟩) .nil)) ⟨492,82,492,92⟩ ⟨492,82,492,108⟩) ⟨492,23,492,108⟩) ⟨492,16,492,108⟩)
  .nil)) (.cons (.iff (.cmp .Eq (.cal 48 (.cons (.loc 1 ⟨493,27,493,30⟩) (.cons (.cint (2) 0 ⟨493,32,493,33⟩) .nil)) ⟨493,17,493,26⟩ ⟨493,17,493,34⟩) (.cint (0) 0 ⟨493,38,493,39⟩) ⟨493,17,493,39⟩) (.cons (.asg (.nm 11 ⟨494,16,494,20⟩) (.tup (.cons (.cstr "s" 0 ⟨494,24,494,27⟩) (.cons (.met (.loc 2 ⟨494,29,494,34⟩) 3 (.cons (.loc 5 ⟨494,40,494,44⟩) (.cons (.cint (2) 0 ⟨494,46,494,47⟩) .nil)) ⟨494,29,494,39⟩ ⟨494,29,494,48⟩) (.cons (.tup (.cons (.loc 11 ⟨494,51,494,55⟩) (.cons (.loc 10 ⟨494,57,494,61⟩) .nil)) 0 ⟨494,50,494,62⟩) .nil))) 0 ⟨494,23,494,63⟩) ⟨494,16,494,63⟩)
  (.cons (.asg (.nm 12 ⟨495,16,495,20⟩) (.ite (.cmp .Eq (.loc 5 ⟨495,69,495,73⟩) (.cstr "-" 0 ⟨495,77,495,80⟩) ⟨495,69,495,80⟩) (.cal 50 (.cons (.cal 51 (.cons (.loc 21 ⟨495,45,495,52⟩) (.cons (.loc 5 ⟨495,54,495,58⟩) .nil)) ⟨495,34,495,44⟩ ⟨495,34,495,59⟩) (.cons (.cstr "b" 0 ⟨495,61,495,64⟩) .nil)) ⟨495,23,495,33⟩ ⟨495,23,495,65⟩) (.bin .add (.loc 21 ⟨495,86,495,93⟩) (.cstr " foo b" 0 ⟨495,96,495,104⟩) ⟨495,86,495,104⟩) ⟨495,23,495,104⟩) ⟨495,16,495,104⟩)
  .nil)) (.cons (.asg (.nm 11 ⟨497,16,497,20⟩) (.tup (.cons (.cstr "s" 0 ⟨497,24,497,27⟩) (.cons (.met (.loc 2 ⟨497,29,497,34⟩) 3 (.cons (.loc 5 ⟨497,40,497,44⟩) (.cons (.cint (2) 0 ⟨497,46,497,47⟩) .nil)) ⟨497,29,497,39⟩ ⟨497,29,497,48⟩) (.cons (.tup (.cons (.loc 10 ⟨497,51,497,55⟩) (.cons (.loc 11 ⟨497,57,497,61⟩) .nil)) 0 ⟨497,50,497,62⟩) .nil))) 0 ⟨497,23,497,63⟩) ⟨497,16,497,63⟩)
  (.cons (.asg (.nm 12 ⟨498,16,498,20⟩) (.ite (.cmp .Eq (.loc 5 ⟨498,59,498,63⟩) (.cstr "-" 0 ⟨498,67,498,70⟩) ⟨498,59,498,70⟩) (.bin .add (.cstr "b" 0 ⟨498,23,498,26⟩) (.cal 50 (.cons (.loc 5 ⟨498,40,498,44⟩) (.cons (.loc 22 ⟨498,46,498,54⟩) .nil)) ⟨498,29,498,39⟩ ⟨498,29,498,55⟩) ⟨498,23,498,55⟩) (.bin .add (.cstr "b foo " 0 ⟨498,76,498,84⟩) (.loc 22 ⟨498,87,498,95⟩) ⟨498,76,498,95⟩) ⟨498,23,498,95⟩) ⟨498,16,498,95⟩)
  .nil)) ⟨493,12,498,95⟩)
  .nil) ⟨490,12,498,95⟩)
  .nil) ⟨486,12,498,95⟩)
  (.cons (.asg (.nm 16 ⟨499,12,499,15⟩) (.tup (.cons (.idx (.lst (.cons (.cstr "infix" 0 ⟨499,20,499,27⟩) (.cons (.cstr "infix" 0 ⟨499,29,499,36⟩) (.cons (.cstr "prefix" 0 ⟨499,38,499,46⟩) (.cons (.cstr "prefix" 0 ⟨499,48,499,56⟩) (.cons (.cstr "postfix" 0 ⟨499,58,499,67⟩) (.cons (.cstr "postfix" 0 ⟨499,69,499,78⟩) .nil)))))) ⟨499,19,499,79⟩) (.loc 18 ⟨499,80,499,83⟩) ⟨499,19,499,84⟩) (.cons (.loc 8 ⟨499,86,499,92⟩) (.cons (.loc 7 ⟨499,94,499,98⟩) .nil))) 0 ⟨499,18,499,99⟩) ⟨499,12,499,99⟩)
  (.cons (.asg (.nm 13 ⟨500,12,500,16⟩) (.loc 8 ⟨500,19,500,25⟩) ⟨500,12,500,25⟩)
  (.cons (.asg (.nm 14 ⟨501,12,501,17⟩) (.loc 20 ⟨501,20,501,25⟩) ⟨501,12,501,25⟩)
  (.cons (.asg (.nm 15 ⟨502,12,502,18⟩) (.cboo false 0 ⟨502,21,502,26⟩) ⟨502,12,502,26⟩)
  (.cons (.con ⟨503,12,503,20⟩)
  .nil))))))))))) .nil ⟨480,8,503,20⟩)
  (.cons (.asg (.nm 23 ⟨504,8,504,13⟩) (.cal 49 (.cons (.loc 12 ⟨504,26,504,30⟩) (.cons (.cmp .Gt (.loc 13 ⟨504,32,504,36⟩) (.cint (999) 0 ⟨504,39,504,42⟩) ⟨504,32,504,42⟩) .nil)) ⟨504,16,504,25⟩ ⟨504,16,504,43⟩) ⟨504,8,504,43⟩)
  (.cons (.iff (.cmp .Eq (.loc 18 ⟨505,11,505,14⟩) (.cint (6) 0 ⟨505,18,505,19⟩) ⟨505,11,505,19⟩) (.cons (.asg (.nm 11 ⟨506,12,506,16⟩) (.tup (.cons (.cstr "s" 0 ⟨506,20,506,23⟩) (.cons (.met (.loc 2 ⟨506,25,506,30⟩) 3 (.cons (.cstr "g" 0 ⟨506,36,506,39⟩) (.cons (.cint (1) 0 ⟨506,41,506,42⟩) .nil)) ⟨506,25,506,35⟩ ⟨506,25,506,43⟩) (.cons (.tup (.cons (.loc 11 ⟨506,46,506,50⟩) .nil) 0 ⟨506,45,506,52⟩) .nil))) 0 ⟨506,19,506,53⟩) ⟨506,12,506,53⟩)
  (.cons (.asg (.nm 12 ⟨507,12,507,16⟩) (.bin .add (.bin .add (.cstr "g(" 0 ⟨507,19,507,23⟩) (.loc 23 ⟨507,26,507,31⟩) ⟨507,19,507,31⟩) (.cstr ")" 0 ⟨507,34,507,37⟩) ⟨507,19,507,37⟩) ⟨507,12,507,37⟩)
  .nil)) (.cons (.iff (.cmp .Eq (.loc 18 ⟨508,13,508,16⟩) (.cint (7) 0 ⟨508,20,508,21⟩) ⟨508,13,508,21⟩) (.cons (.asg (.nm 11 ⟨509,12,509,16⟩) (.tup (.cons (.cstr "s" 0 ⟨509,20,509,23⟩) (.cons (.gv 5 ⟨509,25,509,32⟩) (.cons (.tup (.cons (.loc 11 ⟨509,35,509,39⟩) .nil) 0 ⟨509,34,509,41⟩) .nil))) 0 ⟨509,19,509,42⟩) ⟨509,12,509,42⟩)
  (.cons (.asg (.nm 12 ⟨510,12,510,16⟩) (.bin .add (.bin .add (.cstr "{" 0 ⟨510,19,510,22⟩) (.loc 12 ⟨510,25,510,29⟩) ⟨510,19,510,29⟩) (.cstr "}" 0 ⟨510,32,510,35⟩) ⟨510,19,510,35⟩) ⟨510,12,510,35⟩)
  .nil)) (.cons (.iff (.cmp .Eq (.cal 48 (.cons (.loc 1 ⟨511,23,511,26⟩) (.cons (.cint (2) 0 ⟨511,28,511,29⟩) .nil)) ⟨511,13,511,22⟩ ⟨511,13,511,30⟩) (.cint (0) 0 ⟨511,34,511,35⟩) ⟨511,13,511,35⟩) (.cons (.asg (.nm 11 ⟨512,12,512,16⟩) (.tup (.cons (.cstr "s" 0 ⟨512,20,512,23⟩) (.cons (.gv 4 ⟨512,25,512,30⟩) (.cons (.tup (.cons (.loc 11 ⟨512,33,512,37⟩) (.cons (.tup (.cons (.cstr "a" 0 ⟨512,40,512,43⟩) (.cons (.gv 0 ⟨512,45,512,50⟩) .nil)) 0 ⟨512,39,512,51⟩) .nil)) 0 ⟨512,32,512,52⟩) .nil))) 0 ⟨512,19,512,53⟩) ⟨512,12,512,53⟩)
  (.cons (.asg (.nm 12 ⟨513,12,513,16⟩) (.bin .add (.bin .add (.cstr "[" 0 ⟨513,19,513,22⟩) (.loc 23 ⟨513,25,513,30⟩) ⟨513,19,513,30⟩) (.cstr "]" 0 ⟨513,33,513,36⟩) ⟨513,19,513,36⟩) ⟨513,12,513,36⟩)
  .nil)) (.cons (.asg (.nm 11 ⟨515,12,515,16⟩) (.tup (.cons (.cstr "s" 0 ⟨515,20,515,23⟩) (.cons (.gv 4 ⟨515,25,515,30⟩) (.cons (.tup (.cons (.loc 10 ⟨515,33,515,37⟩) (.cons (.loc 11 ⟨515,39,515,43⟩) .nil)) 0 ⟨515,32,515,44⟩) .nil))) 0 ⟨515,19,515,45⟩) ⟨515,12,515,45⟩)
  (.cons (.asg (.nm 12 ⟨516,12,516,16⟩) (.ite (.loc 15 ⟨516,39,516,45⟩) (.bin .add (.cstr "[b," 0 ⟨516,19,516,24⟩) (.slcFrom (.loc 12 ⟨516,27,516,31⟩) (.cint (1) 0 ⟨516,32,516,33⟩) ⟨516,32,516,34⟩ ⟨516,27,516,35⟩) ⟨516,19,516,35⟩) (.bin .add (.bin .add (.cstr "[b|" 0 ⟨516,51,516,56⟩) (.loc 23 ⟨516,59,516,64⟩) ⟨516,51,516,64⟩) (.cstr "]" 0 ⟨516,67,516,70⟩) ⟨516,51,516,70⟩) ⟨516,19,516,70⟩) ⟨516,12,516,70⟩)
  .nil)) ⟨511,8,516,70⟩)
  .nil) ⟨508,8,516,70⟩)
  .nil) ⟨505,8,516,70⟩)
  (.cons (.asg (.nm 16 ⟨517,8,517,11⟩) (.cnon 0 ⟨517,14,517,18⟩) ⟨517,8,517,18⟩)
  (.cons (.asg (.nm 13 ⟨518,8,518,12⟩) (.cint (0) 0 ⟨518,15,518,16⟩) ⟨518,8,518,16⟩)
  (.cons (.asg (.nm 14 ⟨519,8,519,13⟩) (.cint (0) 0 ⟨519,16,519,17⟩) ⟨519,8,519,17⟩)
  (.cons (.asg (.nm 15 ⟨520,8,520,14⟩) (.cmp .Eq (.loc 18 ⟨520,17,520,20⟩) (.cint (8) 0 ⟨520,24,520,25⟩) ⟨520,17,520,25⟩) ⟨520,8,520,25⟩)
  .nil)))))))) ⟨478,4,520,25⟩)
  (.cons (.asg (.nm 24 ⟨521,4,521,10⟩) (.new 2 (.cons (.loc 2 ⟨521,20,521,25⟩) (.cons (.loc 3 ⟨521,27,521,32⟩) .nil)) ⟨521,13,521,19⟩ ⟨521,13,521,33⟩) ⟨521,4,521,33⟩)
  (.cons (.ret (.bool .And (.cons (.cmp .Eq (.met (.loc 24 ⟨522,11,522,17⟩) 21 (.cons (.loc 11 ⟨522,24,522,28⟩) .nil) ⟨522,11,522,23⟩ ⟨522,11,522,29⟩) (.loc 16 ⟨522,33,522,36⟩) ⟨522,11,522,36⟩) (.cons (.cmp .Eq (.met (.loc 24 ⟨522,41,522,47⟩) 1 (.cons (.loc 11 ⟨522,53,522,57⟩) (.cons (.loc 9 ⟨522,59,522,63⟩) .nil)) ⟨522,41,522,52⟩ ⟨522,41,522,64⟩) (.cal 49 (.cons (.loc 12 ⟨522,78,522,82⟩) (.cons (.cmp .Gt (.loc 13 ⟨522,84,522,88⟩) (.loc 9 ⟨522,91,522,95⟩) ⟨522,84,522,95⟩) .nil)) ⟨522,68,522,77⟩ ⟨522,68,522,96⟩) ⟨522,41,522,96⟩) .nil)) ⟨522,11,522,96⟩) ⟨522,4,522,96⟩)
  .nil)))))))))))))))))
end Mn
end
section
namespace Mn
structure Wk (CW NW : Nat → CallT) : Prop where
  c : ∀ {n f : Nat} {fi : FnI} {ir : Ss} {vs : List AV} {st : List AO} {Q : AV → List AO → Prop}, P0.fns[f]? = some fi → irs0[f]? = some ir → (decide (vs.length ≤ fi.npar) && decide (fi.npar ≤ vs.length + fi.defs.length)) = true → wpSs P0 (CW n) (NW n) ir (argVars fi vs) st (retQ Q) → CW (n + 1) f vs st Q
  n : ∀ {n c f : Nat} {vs : List AV} {st : List AO} {Q : AV → List AO → Prop}, c < P0.clss.length → P0.inits[c]? = some f → CW n f (.ob st.length :: vs) (st ++ [.ins c []]) (fun v st' => v = .d .non ∧ Q (.ob st.length) st') → NW (n + 1) c vs st Q
noncomputable def RC (C : CallT) (f : Nat) (vs : List AV) (st : List AO) (v : AV) (st' : List AO) : Prop := ∀ Q : AV → List AO → Prop, Q v st' → C f vs st Q
section
variable {st : List AO} {Q : AV → List AO → Prop}
theorem ifT {c : Prop} [Decidable c] {A B : Prop} (h : c) (a : A) : if c then A else B := by rw [if_pos h]; exact a
theorem ifF {c : Prop} [Decidable c] {A B : Prop} (h : ¬ c) (a : B) : if c then A else B := by rw [if_neg h]; exact a
theorem ifC {c : Prop} [Decidable c] {A B : Prop} (a : c → A) (b : ¬ c → B) : if c then A else B := by
  by_cases h : c
  · rw [if_pos h]; exact a h
  · rw [if_neg h]; exact b h
theorem ifB {b d : Bool} {A B : Prop} (x : b = d → A) (y : b = !d → B) : if b = d then A else B := by
  by_cases h : b = d
  · rw [if_pos h]; exact x h
  · rw [if_neg h]; exact y (by cases b <;> cases d <;> first | rfl | exact absurd rfl h)
theorem exC {op : CmpOp} {x y : AV} {b : Bool} {K : Bool → Prop} (h : CA st op x y b) (k : K b) : ∃ r, CA st op x y r ∧ K r := ⟨b, h, k⟩
theorem exB {f : BI} {l : List AV} {v : AV} {K : AV → Prop} (h : BiR st f l v) (k : K v) : ∃ r, BiR st f l r ∧ K r := ⟨v, h, k⟩
theorem exO {o : BO} {x y v : AV} {K : AV → Prop} (h : BinR o x y v) (k : K v) : ∃ r, BinR o x y r ∧ K r := ⟨v, h, k⟩
theorem exI {x y v : AV} {K : AV → Prop} (h : IdxR st x y v) (k : K v) : ∃ r, IdxR st x y r ∧ K r := ⟨v, h, k⟩
theorem exM {m : MB} {a v : AV} {l : List AV} {st' : List AO} {K : AV → List AO → Prop} (h : MbR st m a l v st') (k : K v st') : ∃ r st', MbR st m a l r st' ∧ K r st' := ⟨v, st', h, k⟩
theorem exF {k : IK} {v : AV} {l : List D} {K : List D → Prop} (h : ItR k v l) (q : K l) : ∃ l, ItR k v l ∧ K l := ⟨l, h, q⟩
theorem exT {v : AV} {b : Bool} {K : Bool → Prop} (h : TrR st v b) (k : K b) : ∃ b, TrR st v b ∧ K b := ⟨b, h, k⟩
theorem ex3 {α β γ : Type} {p : α → β → γ → Prop} (a : α) (b : β) (c : γ) (h : p a b c) : ∃ a b c, p a b c := ⟨a, b, c, h⟩
theorem an {A B : Prop} (a : A) (b : B) : A ∧ B := ⟨a, b⟩
theorem CD.eqI {x y : Int} : CA st .Eq (.d (.int x)) (.d (.int y)) (x == y) := .d (.eq (.flat (.ii x y)))
theorem CD.eqS {x y : List Nat} : CA st .Eq (.d (.str x)) (.d (.str y)) (x == y) := .d (.eq (.flat (.ss x y)))
theorem CD.neS {x y : List Nat} : CA st .NotEq (.d (.str x)) (.d (.str y)) (!(x == y)) := .d (.ne (.flat (.ss x y)))
theorem qb {b b' : Bool} (q : Q (.d (.boo b)) st) (e : b = b') : Q (.d (.boo b')) st := e ▸ q
theorem qv {v v' : AV} (q : Q v st) (e : v = v') : Q v' st := e ▸ q
end
theorem idx_nat {l : List D} {i : Nat} {d : D} (h : l[i]? = some d) (hi : i < 4294967296) : idxL l (i : Int) d := by
  have hl : i < l.length := (List.getElem?_eq_some_iff.mp h).1
  refine ⟨hi, ?_⟩
  have hp : pyIdx (i : Int) l.length = some i := by
    show (if (if (i : Int) < 0 then _ else (i : Int)) ≥ 0 && _ then _ else none) = _
    rw [if_neg (Int.not_lt.mpr (Int.natCast_nonneg i)), if_pos (by simpa using hl)]; rfl
  rw [hp]
  exact h
theorem pyI {i m : Nat} (h : i < m) : pyIdx (i : Int) m = some i := by
  show (if (if (i : Int) < 0 then _ else (i : Int)) ≥ 0 && _ then _ else none) = _
  rw [if_neg (Int.not_lt.mpr (Int.natCast_nonneg i)), if_pos (by simpa using h)]; rfl
theorem ix0 {st : List AO} {x : D} {l : List D} : IdxR st (.d (.tup (x :: l))) (.d (.int 0)) (.d x) := .tup (idx_nat (i := 0) rfl (by decide))
theorem ix1 {st : List AO} {x y : D} {l : List D} : IdxR st (.d (.tup (x :: y :: l))) (.d (.int 1)) (.d y) := .tup (idx_nat (i := 1) rfl (by decide))
theorem ix2 {st : List AO} {x y z : D} {l : List D} : IdxR st (.d (.tup (x :: y :: z :: l))) (.d (.int 2)) (.d z) := .tup (idx_nat (i := 2) rfl (by decide))
theorem ixS {st : List AO} {f : Nat} {r : List Nat} : IdxR st (.d (.str (f :: r))) (.d (.int 0)) (.d (.str [f])) := .str (by decide) (by rw [show pyIdx 0 (f :: r).length = some 0 from pyI (i := 0) (Nat.zero_lt_succ _)]; rfl)
variable {CW NW : Nat → CallT} (K : Wk CW NW)
include K
noncomputable def digB (x : Int) : Bool := decide (48 ≤ x) && decide (x ≤ 57)
noncomputable def smaB (x : Int) : Bool := decide (97 ≤ x) && decide (x ≤ 122)
noncomputable def capB (x : Int) : Bool := decide (65 ≤ x) && decide (x ≤ 90)
noncomputable def alnB (x : Int) : Bool := smaB x || (capB x || (digB x || x == 95))
noncomputable def wordB (c : Nat) : Bool := alnB c || decide (128 ≤ (c : Int))
noncomputable def symB (c : Nat) : Bool := decide ((c : Int) < 128) && (codes "+-*/\\^<>=~:.?@#&$").contains c
theorem c_is_digit (n : Nat) (x : Int) (st : List AO) : RC (CW (n + 1)) 10 [.d (.int x)] st (.d (.boo (digB x))) st := by
  intro Q q
  refine K.c (fi := fi10) (ir := ir10) rfl rfl rfl ?_
  refine exC (.d (.le _ _)) (ifB (fun h => qb q ?_) fun h => exC (.d (.le _ _)) (qb q ?_)) <;> (unfold digB; rw [h]; rfl)
theorem c_is_small (n : Nat) (x : Int) (st : List AO) : RC (CW (n + 1)) 11 [.d (.int x)] st (.d (.boo (smaB x))) st := by
  intro Q q
  refine K.c (fi := fi11) (ir := ir11) rfl rfl rfl ?_
  refine exC (.d (.le _ _)) (ifB (fun h => qb q ?_) fun h => exC (.d (.le _ _)) (qb q ?_)) <;> (unfold smaB; rw [h]; rfl)
theorem c_is_capital (n : Nat) (x : Int) (st : List AO) : RC (CW (n + 1)) 12 [.d (.int x)] st (.d (.boo (capB x))) st := by
  intro Q q
  refine K.c (fi := fi12) (ir := ir12) rfl rfl rfl ?_
  refine exC (.d (.le _ _)) (ifB (fun h => qb q ?_) fun h => exC (.d (.le _ _)) (qb q ?_)) <;> (unfold capB; rw [h]; rfl)
theorem c_is_alnum (n : Nat) (x : Int) (st : List AO) : RC (CW (n + 2)) 13 [.d (.int x)] st (.d (.boo (alnB x))) st := by
  intro Q q
  refine K.c (fi := fi13) (ir := ir13) rfl rfl rfl ?_
  refine c_is_small K n _ _ _ (ifB (fun h => qb q ?_) fun h => c_is_capital K n _ _ _ (ifB (fun h' => qb q ?_) fun h' => c_is_digit K n _ _ _ (ifB (fun h2 => qb q ?_) fun h2 => exC CD.eqI (qb q ?_))))
  · unfold alnB; rw [h]; rfl
  · unfold alnB; rw [h, h']; rfl
  · unfold alnB; rw [h, h', h2]; rfl
  · unfold alnB; rw [h, h', h2]; rfl
theorem c_is_word (n : Nat) (c : Nat) (st : List AO) : RC (CW (n + 3)) 28 [.d (.str [c])] st (.d (.boo (wordB c))) st := by
  intro Q q
  refine K.c (fi := fi28) (ir := ir28) rfl rfl rfl ?_
  refine exB (.ord _) (c_is_alnum K n _ _ _ (ifB (fun h => qb q ?_) fun h => exC (.d (.ge _ _)) (qb q ?_))) <;> (unfold wordB; rw [h]; rfl)
theorem c_is_symbol (n : Nat) (c : Nat) (st : List AO) : RC (CW (n + 1)) 14 [.d (.int c)] st (.d (.boo (symB c))) st := by
  intro Q q
  refine K.c (fi := fi14) (ir := ir14) rfl rfl rfl ?_
  refine exC (.d (.le _ _)) ?_
  refine exC (.d (.lt _ _)) ?_
  refine ifB (fun h => ?_) fun h => ?_
  · refine qb q ?_
    unfold symB; rw [h]; rfl
  · have h1 := of_decide_eq_true h
    refine exB (.chr (by omega)) (exC (.d (.inS _ _)) (qb q ?_))
    unfold symB; rw [h]; rfl
structure Bs where
  row : List D
  texts : List D
  an : AO
  fs : List D
  fn : AO
  pre : AO
  inf : AO
  post : AO
noncomputable def bst (b : Bs) (rest : List AO) : List AO :=
  .lst b.row :: .ins 0 [(0, .ob 2), (1, .ob 3), (2, .ob 4), (3, .ob 5)] :: .lst b.texts :: b.an :: .lst b.fs :: b.fn ::
  .ins 1 [(4, .ob 1), (5, .ob 7), (6, .ob 8), (7, .ob 9)] :: b.pre :: b.inf :: b.post :: rest
noncomputable def wst (b : Bs) (out work : List D) (last : List Nat) (pf : Bool) : List AO :=
  bst b [.ins 2 [(4, .ob 1), (8, .ob 6), (9, .d (.boo true)), (10, .d (.boo false)), (11, .d (.boo false)), (12, .ob 11), (13, .ob 12), (14, .ob 15), (15, .d (.str last)), (16, .d (.boo pf)), (17, .ob 16)],
    .d0, .d0, .lst [], .lst [], .lst out, .lst work]
theorem c_raw (n : Nat) (b : Bs) (out work : List D) (last : List Nat) (pf : Bool) (u : List Nat) (c : Nat) (hu : u.length + 1 ≤ big) (ho : out.length ≤ big) :
    RC (CW (n + 1)) 32 [.ob 10, .d (.str (u ++ [c]))] (wst b out work last pf) (.d .non) (wst b (out ++ [.str (u ++ [c])]) work [c] false) := by
  intro Q q
  refine K.c (fi := fi32) (ir := ir32) rfl rfl rfl ?_
  have e1 : (!(u ++ [c] == codes "")) = true := by cases u <;> rfl
  have hb : big = 16777216 := rfl
  have hlen : (u ++ [c]).length = u.length + 1 := List.length_append
  refine exC CD.neS (ifT e1 (an (.lst rfl rfl) (exM (.append _ rfl ho) ?_)))
  refine exB (.lenS (by rw [hlen]; exact hu)) (exO (.sub _ _) (exI (.str (c := c) ?_ ?_) ?_))
  · rw [hlen]; omega
  · rw [show (((u ++ [c]).length : Nat) : Int) - 1 = ((u.length : Nat) : Int) by rw [hlen]; omega, hlen, pyI (Nat.lt_succ_self _)]
    show (u ++ [c])[u.length]? = some c
    rw [List.getElem?_concat_length]
  · refine ex3 10 2 _ ⟨rfl, rfl, by exact Nat.le_of_ble_eq_true rfl, ?_⟩
    refine ex3 10 2 _ ⟨rfl, rfl, by exact Nat.le_of_ble_eq_true rfl, ?_⟩
    exact q
end Mn
end
section
namespace Mn
noncomputable def nsC (l : Nat) (pf : Bool) (f : Nat) : Bool := if l = 32 then false else if (pf && (f == 40 || (l == 45 && digB f))) = true then true else if wordB l = true then (wordB f || f == 39) else if symB l = true then symB f else (l == 39 && f == 39)
noncomputable def nsB (last : List Nat) (pf : Bool) (f : Nat) : Bool := match last with
  | [l] => nsC l pf f
  | _ => false
theorem codes1 : codes " " = [32] ∧ codes "(" = [40] ∧ codes "-" = [45] ∧ codes "'" = [39] ∧ codes "" = [] := by
  refine ⟨?_, ?_, ?_, ?_, ?_⟩ <;> kernel_rfl
theorem str1 (a c : Nat) : (([a] : List Nat) == [c]) = (a == c) := by
  show (a == c && true) = _
  rw [Bool.and_true]
theorem eq1 {st : List AO} {a c : Nat} {s : List Nat} (h : s = [c]) : CA st .Eq (.d (.str [a])) (.d (.str s)) (a == c) := by
  subst h; rw [← str1]; exact CD.eqS
variable {CW NW : Nat → CallT} (K : Wk CW NW)
include K
theorem c_needs (n : Nat) (b : Bs) (out work : List D) (last : List Nat) (pf : Bool) (f : Nat) (hl : last = [] ∨ ∃ l, last = [l]) :
    RC (CW (n + 4)) 34 [.ob 10, .d (.str [f])] (wst b out work last pf) (.d (.boo (nsB last pf f))) (wst b out work last pf) := by
  intro Q q
  refine K.c (fi := fi34) (ir := ir34) rfl rfl rfl ?_
  obtain ⟨q1, q2, q3, q4, q5⟩ := codes1
  rcases hl with rfl | ⟨l, rfl⟩
  · refine exC CD.eqS ?_
    rw [q5]; exact q
  replace q : Q (.d (.boo (nsC l pf f))) (wst b out work [l] pf) := q
  refine exC (b := false) ?_ ?_
  · rw [q5]; exact CD.eqS
  refine exC (eq1 q1) ?_
  refine ifC (fun h => ?_) (fun h => ?_)
  · refine qb q ?_
    unfold nsC; rw [if_pos (beq_iff_eq.mp h)]
  have h0 : ¬ l = 32 := fun e => h (beq_iff_eq.mpr e)
  have key : (pf && (f == 40 || (l == 45 && digB f))) = false → wpSs P0 (CW (n + 3)) (NW (n + 3)) (match ir34 with | .cons _ (.cons _ r) => r | _ => .nil) (argVars fi34 [.ob 10, .d (.str [f])]) (wst b out work [l] pf) (retQ Q) := by
    intro hn
    have hq : ∀ x, x = (if wordB l = true then (wordB f || f == 39) else if symB l = true then symB f else (l == 39 && f == 39)) → Q (.d (.boo x)) (wst b out work [l] pf) := by
      intro x e
      refine qb q (Eq.trans ?_ e.symm)
      unfold nsC; rw [if_neg h0, hn, if_neg Bool.false_ne_true]
    refine c_is_word K n l _ _ ?_
    refine ifC (fun hw => ?_) (fun hw => ?_)
    · rw [if_pos hw] at hq
      refine c_is_word K n f _ _ ?_
      refine ifB (fun hf => ?_) (fun hf => ?_)
      · exact hq _ (by rw [hf]; rfl)
      · refine exC (eq1 q4) ?_
        exact hq _ (by rw [hf]; rfl)
    · rw [if_neg hw] at hq
      refine exB (.ord _) ?_
      refine c_is_symbol K (n + 2) l _ _ ?_
      refine ifC (fun hs => ?_) (fun hs => ?_)
      · rw [if_pos hs] at hq
        refine exB (.ord _) ?_
        refine c_is_symbol K (n + 2) f _ _ ?_
        exact hq _ rfl
      · rw [if_neg hs] at hq
        refine exC (eq1 q4) ?_
        refine ifB (fun h3 => ?_) (fun h3 => ?_)
        · exact hq _ (by rw [h3]; rfl)
        · refine exC (eq1 q4) ?_
          exact hq _ (by rw [h3]; rfl)
  have yes : (pf && (f == 40 || (l == 45 && digB f))) = true → Q (.d (.boo true)) (wst b out work [l] pf) := by
    intro hy
    refine qb q ?_
    unfold nsC; rw [if_neg h0, if_pos hy]
  cases pf with
  | false => exact key rfl
  | true =>
    refine exC (eq1 q2) ?_
    refine ifB (fun h2 => ?_) (fun h2 => ?_)
    · refine ifT h2 (yes ?_)
      rw [h2]; rfl
    · refine exC (eq1 q3) ?_
      refine ifB (fun h3 => ?_) (fun h3 => ?_)
      · refine ifF (fun e => Bool.false_ne_true (h3.symm.trans e)) (key ?_)
        rw [h2, h3]; rfl
      · refine exB (.ord _) ?_
        refine c_is_digit K (n + 2) f _ _ ?_
        refine ifC (fun h4 => ?_) (fun h4 => ?_)
        · refine yes ?_
          rw [h2, h3, h4]; rfl
        · refine key ?_
          rw [h2, h3, eq_false_of_ne_true h4]; rfl
end Mn
end
section
namespace Mn
theorem big_eq : big = 16777216 := rfl
theorem ap1 {α : Type} (l : List α) (a : α) : (l ++ [a]).length = l.length + 1 := List.length_append
noncomputable def forB (s : Ss) (k : Nat) : Ss := match k, s with
  | 0, .cons (.for_ _ _ _ b _) _ => b
  | 0, .cons (.whl _ b _) _ => b
  | k + 1, .cons _ r => forB r k
  | _, _ => .nil
noncomputable def whlT (s : Ss) (k : Nat) : X := match k, s with
  | 0, .cons (.whl t _ _) _ => t
  | k + 1, .cons _ r => whlT r k
  | _, _ => .newl ⟨0, 0, 0, 0⟩
noncomputable def sp (last : List Nat) (pf : Bool) (f : Nat) : List D := if nsB last pf f = true then [.str [32]] else []
theorem sp_len (last : List Nat) (pf : Bool) (f : Nat) : (sp last pf f).length ≤ 1 := by
  unfold sp
  by_cases h : nsB last pf f = true
  · rw [if_pos h]; exact Nat.le_refl _
  · rw [if_neg h]; exact Nat.zero_le _
variable {CW NW : Nat → CallT} (K : Wk CW NW)
theorem later_loop {C N : CallT} (b : Bs) (out : List D) (last : List Nat) (pf : Bool) (items : Option AV) (p : Pos) (Q : Fl → Vars → List AO → Prop) : ∀ (l work : List D) (x : Option AV), work.length + l.length ≤ big → (∀ y, Q .nx [some (.ob 10), items, y] (wst b out (work ++ l) last pf)) →
    loopF (.nm 2 p) (fun vs st Q => wpSs P0 C N (forB ir35 0) vs st Q) l [some (.ob 10), items, x] (wst b out work last pf) Q := by
  intro l
  induction l with
  | nil => intro work x h q; rw [List.append_nil] at q; exact q x
  | cons d l ih =>
    intro work x h q
    rw [List.length_cons] at h
    refine an (.lst rfl rfl) (exM (.append d rfl (by omega)) ?_)
    refine ih (work ++ [d]) _ (by rw [ap1]; omega) ?_
    rw [List.append_assoc]; exact q
include K
theorem c_later (n : Nat) (b : Bs) (out work : List D) (last : List Nat) (pf : Bool) (items : List D) (h : work.length + items.length ≤ big) :
    RC (CW (n + 1)) 35 [.ob 10, .d (.lst items)] (wst b out work last pf) (.d .non) (wst b out (work ++ items.reverse) last pf) := by
  intro Q q
  refine K.c (fi := fi35) (ir := ir35) rfl rfl rfl ?_
  refine exF (.rev (by omega)) ?_
  exact later_loop b out last pf _ _ _ items.reverse work _ (by rw [List.length_reverse]; exact h) fun y => q
theorem c_token (n : Nat) (b : Bs) (out work : List D) (last : List Nat) (pf : Bool) (hl : last = [] ∨ ∃ l, last = [l]) (f : Nat) (r u : List Nat) (c : Nat) (ht : f :: r = u ++ [c]) (hu : u.length + 1 ≤ 1000) (ho : out.length + 1 ≤ big) :
    RC (CW (n + 5)) 33 [.ob 10, .d (.str (f :: r))] (wst b out work last pf) (.d .non) (wst b (out ++ sp last pf f ++ [.str (f :: r)]) work [c] false) := by
  intro Q q
  refine K.c (fi := fi33) (ir := ir33) rfl rfl rfl ?_
  have hb := big_eq
  have R : ∀ out' last' pf', out'.length ≤ big → RC (CW (n + 4)) 32 [.ob 10, .d (.str (f :: r))] (wst b out' work last' pf') (.d .non) (wst b (out' ++ [.str (f :: r)]) work [c] false) := by
    intro out' last' pf' h
    rw [ht]
    exact c_raw K (n + 3) b out' work last' pf' u c (by omega) h
  refine exC CD.neS (ifT ?_ ?_)
  · rw [codes1.2.2.2.2]; rfl
  refine exI ixS ?_
  refine c_needs K n b out work last pf f hl _ ?_
  unfold sp at q
  refine ifC (fun h => ?_) (fun h => ?_)
  · rw [if_pos h] at q
    refine an (.lst rfl rfl) (exM (.append _ rfl (by omega)) ?_)
    rw [codes1.1]
    refine R _ _ _ (by rw [ap1]; exact ho) _ q
  · rw [if_neg h, List.append_nil] at q
    exact R _ _ _ (by omega) _ q
end Mn
end
section
namespace Mn
inductive Kd where | xfx | xfy | yfx | fy | fx | yf | xf
noncomputable def Kd.s : Kd → List Nat
  | .xfx => [120, 102, 120] | .xfy => [120, 102, 121] | .yfx => [121, 102, 120] | .fy => [102, 121] | .fx => [102, 120] | .yf => [121, 102] | .xf => [120, 102]
theorem kd_codes : codes "xfx" = [120, 102, 120] ∧ codes "xfy" = [120, 102, 121] ∧ codes "yfx" = [121, 102, 120] ∧ codes "fy" = [102, 121] ∧ codes "fx" = [102, 120] ∧ codes "yf" = [121, 102] ∧ codes "xf" = [120, 102] := by
  refine ⟨?_, ?_, ?_, ?_, ?_, ?_, ?_⟩ <;> kernel_rfl
noncomputable def Kd.lb (h : Int) : Kd → Int
  | .xfx => h - 1 | .xfy => h - 1 | .yfx => h | .fy => 0 | .fx => 0 | .yf => h | .xf => h - 1
noncomputable def Kd.rb (h : Int) : Kd → Int
  | .xfx => h - 1 | .xfy => h | .yfx => h - 1 | .fy => h | .fx => h - 1 | .yf => 0 | .xf => 0
theorem eqL {st : List AO} {a s t : List Nat} (h : t = s) : CA st .Eq (.d (.str a)) (.d (.str t)) (a == s) := by
  subst h; exact CD.eqS
theorem nb {b : Bool} (h : (!b) = true) : b = false := by
  cases b
  · rfl
  · cases h
theorem nf {b : Bool} (h : ¬ (!b) = true) : b = true := by
  cases b
  · exact absurd rfl h
  · rfl
noncomputable def alnN (s : List Nat) : Bool := match s with
  | [] => false
  | c :: _ => smaB c && s.all (fun c => alnB c)
noncomputable def symN (s : List Nat) : Bool := match s with
  | [] => false
  | _ => s.all symB
noncomputable def in4 (s : List Nat) : Bool := ([91, 93] == s) || (([123, 125] == s) || (([33] == s) || (([59] == s) || false)))
noncomputable def plainN (s : List Nat) : Bool := in4 s || (alnN s || (symN s && (!(s == [46]) && !(decide (2 ≤ s.length) && s.take 2 == [47, 42]))))
noncomputable def tightN (s : List Nat) : Bool := (s == [59]) || ((s == [33]) || symN s)
theorem nm_codes : codes "[]" = [91, 93] ∧ codes "{}" = [123, 125] ∧ codes "!" = [33] ∧ codes ";" = [59] ∧ codes "." = [46] ∧ codes "/*" = [47, 42] := by
  refine ⟨?_, ?_, ?_, ?_, ?_, ?_⟩ <;> kernel_rfl
section
variable {C N : CallT} {st : List AO}
theorem chk_loop {t : Option AV} {p : Pos} {g : Nat → Bool} {B : Vars → List AO → (Fl → Vars → List AO → Prop) → Prop} (hB : ∀ (c : Nat) (Q : Fl → Vars → List AO → Prop), (g c = true → Q .nx [t, some (.d (.str [c]))] st) → (g c = false → Q (.rt (.d (.boo false))) [t, some (.d (.str [c]))] st) → B [t, some (.d (.str [c]))] st Q) {Q : Fl → Vars → List AO → Prop} :
    ∀ (l : List Nat) (x : Option AV), (l.all g = true → ∀ y, Q .nx [t, y] st) → (l.all g = false → ∀ y, Q (.rt (.d (.boo false))) [t, y] st) → loopF (.nm 1 p) B (l.map fun c => .str [c]) [t, x] st Q := by
  intro l
  induction l with
  | nil => intro x h _; exact h rfl x
  | cons c l ih =>
    intro x h1 h2
    refine hB c _ (fun hc => ?_) (fun hc => ?_)
    · refine ih _ (fun h => h1 ?_) (fun h => h2 ?_)
      · rw [List.all_cons, hc, h]; rfl
      · rw [List.all_cons, hc, h]; rfl
    · refine h2 ?_ _
      rw [List.all_cons, hc]; rfl
end
variable {CW NW : Nat → CallT} (K : Wk CW NW)
include K
theorem c_bounds (n : Nat) (h : Int) (k : Kd) (st : List AO) : RC (CW (n + 1)) 19 [.d (.int h), .d (.str k.s)] st (.d (.tup [.int (k.lb h), .int (k.rb h)])) st := by
  intro Q q
  refine K.c (fi := fi19) (ir := ir19) rfl rfl rfl ?_
  obtain ⟨k1, k2, k3, k4, k5, k6, k7⟩ := kd_codes
  have b2 : (2 : Nat) ≤ big := by decide
  refine exO (.sub _ _) (exC (eqL k5) ?_)
  refine ifC (fun e => ?_) (fun e5 => ?_)
  · cases k <;> first | exact an b2 q | exact absurd e (by decide)
  refine exC (eqL k4) (ifC (fun e => ?_) (fun e4 => ?_))
  · cases k <;> first | exact an b2 q | exact absurd e (by decide)
  refine exC (eqL k7) (ifC (fun e => ?_) (fun e7 => ?_))
  · cases k <;> first | exact an b2 q | exact absurd e (by decide)
  refine exC (eqL k6) (ifC (fun e => ?_) (fun e6 => ?_))
  · cases k <;> first | exact an b2 q | exact absurd e (by decide)
  refine exC (eqL k2) (ifC (fun e => ?_) (fun e2 => ?_))
  · cases k <;> first | exact an b2 q | exact absurd e (by decide)
  refine exC (eqL k3) (ifC (fun e => ?_) (fun e3 => ?_))
  · cases k <;> first | exact an b2 q | exact absurd e (by decide)
  cases k <;> first | exact an b2 q | exact absurd rfl (by assumption)
theorem c_alnN (n : Nat) (s : List Nat) (hs : s.length ≤ big) (st : List AO) : RC (CW (n + 3)) 15 [.d (.str s)] st (.d (.boo (alnN s))) st := by
  intro Q q
  refine K.c (fi := fi15) (ir := ir15) rfl rfl rfl ?_
  refine exC (eqL codes1.2.2.2.2) ?_
  cases s with
  | nil => exact q
  | cons c r =>
    refine exI ixS (exB (.ord _) ?_)
    refine c_is_small K (n + 1) _ _ _ ?_
    refine ifC (fun h => ?_) (fun h => ?_)
    · refine qb q ?_
      show (smaB c && _) = false
      rw [nb h]; rfl
    · have h : smaB c = true := nf h
      refine exF (.str hs) ?_
      refine chk_loop (g := fun c => alnB c) (fun c Q h1 h2 => ?_) (c :: r) _ (fun e y => ?_) (fun e y => ?_)
      · refine exB (.ord _) ?_
        refine c_is_alnum K n _ _ _ ?_
        refine ifC (fun h => h2 (nb h)) (fun h => h1 (nf h))
      · refine qb q ?_
        show (smaB c && _) = true
        rw [h, e]; rfl
      · refine qb q ?_
        show (smaB c && _) = false
        rw [h, e]; rfl
theorem c_symN (n : Nat) (s : List Nat) (hs : s.length ≤ big) (st : List AO) : RC (CW (n + 2)) 16 [.d (.str s)] st (.d (.boo (symN s))) st := by
  intro Q q
  refine K.c (fi := fi16) (ir := ir16) rfl rfl rfl ?_
  refine exC (eqL codes1.2.2.2.2) ?_
  cases s with
  | nil => exact q
  | cons c r =>
    refine exF (.str hs) ?_
    refine chk_loop (g := symB) (fun c Q h1 h2 => ?_) (c :: r) _ (fun e y => ?_) (fun e y => ?_)
    · refine exB (.ord _) ?_
      refine c_is_symbol K n _ _ _ ?_
      refine ifC (fun h => h2 (nb h)) (fun h => h1 (nf h))
    · exact qb q e
    · exact qb q e
theorem c_plain (n : Nat) (s : List Nat) (hs : s.length ≤ big) (st : List AO) : RC (CW (n + 4)) 17 [.d (.str s)] st (.d (.boo (plainN s))) st := by
  intro Q q
  refine K.c (fi := fi17) (ir := ir17) rfl rfl rfl ?_
  obtain ⟨k1, k2, k3, k4, k5, k6⟩ := nm_codes
  unfold plainN at q
  refine an (by decide) (exC (b := in4 s) (.d (.inT ?_)) ?_)
  · rw [k1, k2, k3, k4]
    exact .cons (.flat (.ss _ _)) (.cons (.flat (.ss _ _)) (.cons (.flat (.ss _ _)) (.cons (.flat (.ss _ _)) .nil)))
  refine ifC (fun h => qb q (by rw [h]; rfl)) (fun h => ?_)
  rw [eq_false_of_ne_true h, Bool.false_or] at q
  refine c_alnN K n s hs _ _ ?_
  refine ifC (fun h => qb q (by rw [h]; rfl)) (fun h => ?_)
  rw [eq_false_of_ne_true h, Bool.false_or] at q
  refine c_symN K (n + 1) s hs _ _ ?_
  refine ifB (fun h => qb q (by rw [h]; rfl)) (fun h => ?_)
  rw [h] at q
  refine exC (b := !(s == [46])) (by rw [k5]; exact CD.neS) ?_
  refine ifB (fun h => qb q (by rw [h]; rfl)) (fun h => ?_)
  rw [h] at q
  refine an (.str rfl) (exM (.startswith _ _) ?_)
  rw [k6]; exact q
theorem c_tight (n : Nat) (s : List Nat) (hs : s.length ≤ big) (st : List AO) : RC (CW (n + 3)) 29 [.d (.str s)] st (.d (.boo (tightN s))) st := by
  intro Q q
  refine K.c (fi := fi29) (ir := ir29) rfl rfl rfl ?_
  obtain ⟨k1, k2, k3, k4, k5, k6⟩ := nm_codes
  unfold tightN at q
  refine exC (eqL k4) (ifB (fun h => qb q ?_) (fun h => ?_))
  · rw [h]; rfl
  rw [h] at q
  refine exC (eqL k3) (ifB (fun h => qb q ?_) (fun h => ?_))
  · rw [h]; rfl
  rw [h] at q
  exact c_symN K n s hs _ _ q
end Mn
end
section
namespace Mn
noncomputable def tS (f : Nat) (l : List D) : D := .tup [.str [115], .int f, .tup l]
theorem cA : codes "a" = [97] ∧ codes "v" = [118] ∧ codes "i" = [105] ∧ codes "s" = [115] ∧ codes "{" = [123] := by
  refine ⟨?_, ?_, ?_, ?_, ?_⟩ <;> kernel_rfl
noncomputable def sInf : List Nat := [105, 110, 102, 105, 120]
noncomputable def sPre : List Nat := [112, 114, 101, 102, 105, 120]
noncomputable def sPost : List Nat := [112, 111, 115, 116, 102, 105, 120]
theorem cI : codes "infix" = sInf ∧ codes "prefix" = sPre ∧ codes "postfix" = sPost := by
  refine ⟨?_, ?_, ?_⟩ <;> kernel_rfl
theorem neL {st : List AO} {a s t : List Nat} (h : t = s) : CA st .NotEq (.d (.str a)) (.d (.str t)) (!(a == s)) := by
  subst h; exact CD.neS
theorem bg1 : 1 ≤ big := by decide
theorem bg2 : 2 ≤ big := by decide
theorem bg3 : 3 ≤ big := by decide
theorem bg4 : 4 ≤ big := by decide
theorem beqI {x y : Int} (h : ¬ x = y) : ¬ (x == y) = true := fun e => h (beq_iff_eq.mp e)
variable {CW NW : Nat → CallT} (K : Wk CW NW)
include K
theorem c_text0 (n : Nat) (b : Bs) (rest : List AO) (a : Nat) (t : D) (h : b.texts[a]? = some t) (ha : a < 4294967296) : RC (CW (n + 1)) 4 [.ob 1, .d (.int a)] (bst b rest) (.d t) (bst b rest) := by
  intro Q q
  refine K.c (fi := fi4) (ir := ir4) rfl rfl rfl ?_
  exact exI (.ob (l := b.texts) rfl (idx_nat h ha)) q
theorem c_name (n : Nat) (b : Bs) (rest : List AO) (f : Nat) (a r : D) (h : b.fs[f]? = some (.tup [a, r])) (hf : f < 4294967296) : RC (CW (n + 1)) 7 [.ob 1, .d (.int f)] (bst b rest) (.d a) (bst b rest) := by
  intro Q q
  refine K.c (fi := fi7) (ir := ir7) rfl rfl rfl ?_
  refine exI (.ob (l := b.fs) rfl (idx_nat h hf)) ?_
  exact exI ix0 q
theorem c_atom_text (n : Nat) (b : Bs) (rest : List AO) (a : Nat) (t : List Nat) (h : b.texts[a]? = some (.str t)) (ha : a < 4294967296) (hl : t.length ≤ big) (ht : plainN t = true) :
    RC (CW (n + 5)) 27 [.ob 1, .d (.int a), .d (.boo true)] (bst b rest) (.d (.str t)) (bst b rest) := by
  intro Q q
  refine K.c (fi := fi27) (ir := ir27) rfl rfl rfl ?_
  refine c_text0 K (n + 3) b rest a _ h ha _ ?_
  refine c_plain K n t hl _ _ ?_
  rw [ht]
  exact q
theorem c_prefix (n : Nat) (b : Bs) (rest : List AO) (a : D) (r : Option D) (h : DG b.pre a r) : RC (CW (n + 1)) 21 [.ob 6, .d a] (bst b rest) (.d (r.getD .non)) (bst b rest) := by
  intro Q q
  refine K.c (fi := fi21) (ir := ir21) rfl rfl rfl ?_
  exact an (.get rfl h) (exM (.get rfl h) q)
theorem c_infix (n : Nat) (b : Bs) (rest : List AO) (a : D) (r : Option D) (h : DG b.inf a r) : RC (CW (n + 1)) 22 [.ob 6, .d a] (bst b rest) (.d (r.getD .non)) (bst b rest) := by
  intro Q q
  refine K.c (fi := fi22) (ir := ir22) rfl rfl rfl ?_
  exact an (.get rfl h) (exM (.get rfl h) q)
theorem c_postfix (n : Nat) (b : Bs) (rest : List AO) (a : D) (r : Option D) (h : DG b.post a r) : RC (CW (n + 1)) 23 [.ob 6, .d a] (bst b rest) (.d (r.getD .non)) (bst b rest) := by
  intro Q q
  refine K.c (fi := fi23) (ir := ir23) rfl rfl rfl ?_
  exact an (.get rfl h) (exM (.get rfl h) q)
theorem c_isop_no (n : Nat) (b : Bs) (rest : List AO) (a : D) (h1 : DG b.pre a none) (h2 : DG b.inf a none) (h3 : DG b.post a none) : RC (CW (n + 1)) 24 [.ob 6, .d a] (bst b rest) (.d (.boo false)) (bst b rest) := by
  intro Q q
  refine K.c (fi := fi24) (ir := ir24) rfl rfl rfl ?_
  refine exC (.inD rfl h1) ?_
  refine exC (.inD rfl h2) ?_
  exact exC (.inD rfl h3) q
structure Wx where
  o : Nat
  l : Nat
  last : List Nat
  pf : Bool
  rest : List AO
noncomputable def xst (b : Bs) (w : Wx) : List AO := bst b (.ins 2 [(4, .ob 1), (8, .ob 6), (9, .d (.boo true)), (10, .d (.boo false)), (11, .d (.boo false)), (12, .ob 11), (13, .ob 12), (14, .ob w.o), (15, .d (.str w.last)), (16, .d (.boo w.pf)), (17, .ob w.l)] :: w.rest)
noncomputable def wxr (out work : List D) (last : List Nat) (pf : Bool) : Wx := ⟨15, 16, last, pf, [.d0, .d0, .lst [], .lst [], .lst out, .lst work]⟩
section
variable (b : Bs) (w : Wx)
theorem c_numbered (n : Nat) (t : D) : RC (CW (n + 1)) 37 [.ob 10, .d t] (xst b w) (.d (.boo false)) (xst b w) := by
  intro Q q
  refine K.c (fi := fi37) (ir := ir37) rfl rfl rfl ?_
  exact q
theorem c_shape_atom (n : Nat) (l : List D) (tg : List Nat) (h : (tg == [115]) = false) : RC (CW (n + 2)) 41 [.ob 10, .d (.tup (.str tg :: l))] (xst b w) (.d .non) (xst b w) := by
  intro Q q
  refine K.c (fi := fi41) (ir := ir41) rfl rfl rfl ?_
  refine exI ix0 ?_
  refine exC (neL cA.2.2.2.1) ?_
  rw [h]; exact q
theorem shape_s (n : Nat) (l : List D) (f : Nat) {Q : AV → List AO → Prop} (h : wpSs P0 (CW (n + 1)) (NW (n + 1)) (match ir41 with | .cons _ r => r | _ => .nil) (argVars fi41 [.ob 10, .d (tS f l)]) (xst b w) (retQ Q)) : CW (n + 2) 41 [.ob 10, .d (tS f l)] (xst b w) Q := by
  refine K.c (fi := fi41) (ir := ir41) rfl rfl rfl ?_
  refine exI ix0 ?_
  refine exC (neL cA.2.2.2.1) ?_
  exact h
theorem c_shape_f (n : Nat) (l : List D) (f : Nat) (h : f = 0 ∨ f = 9) : RC (CW (n + 2)) 41 [.ob 10, .d (tS f l)] (xst b w) (.d .non) (xst b w) := by
  intro Q q
  refine shape_s K b w n l f ?_
  refine exI ix1 (exC CD.eqI ?_)
  rcases h with rfl | rfl
  · exact q
  · refine exI ix1 (exC CD.eqI ?_)
    exact q
theorem shape_op (n : Nat) (l : List D) (f : Nat) (h0 : f ≠ 0) (h9 : f ≠ 9) (hf : f < 4294967296) (a ar : D) (hfs : b.fs[f]? = some (.tup [a, ar])) {Q : AV → List AO → Prop}
    (h : wpSs P0 (CW (n + 2)) (NW (n + 2)) (match ir41 with | .cons _ (.cons _ (.cons _ (.cons _ r))) => r | _ => .nil) [some (.ob 10), some (.d (tS f l)), some (.d a), some (.d (.tup l)), none] (xst b w) (retQ Q)) : CW (n + 3) 41 [.ob 10, .d (tS f l)] (xst b w) Q := by
  refine shape_s K b w (n + 1) l f ?_
  refine exI ix1 (exC CD.eqI ?_)
  refine ifF (beqI (by omega)) ?_
  refine exI ix1 (exC CD.eqI ?_)
  refine ifF (beqI (by omega)) ?_
  refine c_numbered K b w (n + 1) _ _ ?_
  refine exI ix1 ?_
  refine c_name K (n + 1) b _ f a ar hfs hf _ ?_
  exact exI ix2 h
theorem c_shape2 (n : Nat) (x y : D) (f : Nat) (h0 : f ≠ 0) (h9 : f ≠ 9) (hf : f < 4294967296) (a ar : D) (hfs : b.fs[f]? = some (.tup [a, ar])) (h k : D) (hi : DG b.inf a (some (.tup [h, k]))) :
    RC (CW (n + 3)) 41 [.ob 10, .d (tS f [x, y])] (xst b w) (.d (.tup [.str sInf, h, k])) (xst b w) := by
  intro Q q
  refine shape_op K b w n _ f h0 h9 hf a ar hfs ?_
  refine exB (.lenT bg2) (exC CD.eqI ?_)
  refine c_infix K (n + 1) b _ a _ hi _ ?_
  refine exC (.d (.isN _)) ?_
  refine exI ix0 ?_
  refine exI ix1 ?_
  rw [← cI.1] at q
  exact an bg3 q
theorem c_shape1p (n : Nat) (tg : List Nat) (l : List D) (f : Nat) (htg : (tg == [105]) = false) (h0 : f ≠ 0) (h9 : f ≠ 9) (hf : f < 4294967296) (a : Int) (ar : D) (hfs : b.fs[f]? = some (.tup [.int a, ar])) (h k : D) (hi : DG b.pre (.int a) (some (.tup [h, k]))) :
    RC (CW (n + 3)) 41 [.ob 10, .d (tS f [.tup (.str tg :: l)])] (xst b w) (.d (.tup [.str sPre, h, k])) (xst b w) := by
  intro Q q
  refine shape_op K b w n _ f h0 h9 hf (.int a) ar hfs ?_
  refine exB (.lenT bg1) (exC CD.eqI ?_)
  refine exB (.lenT bg1) (exC CD.eqI ?_)
  refine c_prefix K (n + 1) b _ (.int a) _ hi _ ?_
  refine exC (.d (.isN _)) ?_
  rw [← cI.2.1] at q
  have fin : wpSs P0 (CW (n + 2)) (NW (n + 2)) (.cons (match ir41 with | .cons _ (.cons _ (.cons _ (.cons _ (.cons _ (.cons (.iff _ (.cons _ (.cons (.iff _ (.cons _ (.cons s _)) _ _) _)) _ _) _))))) => s | _ => .pas ⟨0,0,0,0⟩) .nil) [some (.ob 10), some (.d (tS f [.tup (.str tg :: l)])), some (.d (.int a)), some (.d (.tup [.tup (.str tg :: l)])), some (.d (.tup [h, k]))] (xst b w) (retQ Q) := by
    refine exI ix0 ?_
    refine exI ix1 ?_
    exact an bg3 q
  refine exC CD.eqI ?_
  refine ifB (fun e => ?_) (fun e => ?_)
  · refine ifF (fun c => Bool.false_ne_true (e.symm.trans c)) ?_
    exact fin
  · refine exI ix0 (exI ix0 (exC (eqL cA.2.2.1) ?_))
    rw [htg]
    exact fin
theorem c_shape1q (n : Nat) (x : D) (f : Nat) (h0 : f ≠ 0) (h9 : f ≠ 9) (hf : f < 4294967296) (a : D) (ar : D) (hfs : b.fs[f]? = some (.tup [a, ar])) (hi : DG b.pre a none) (r : Option (D × D)) (hj : DG b.post a (r.map fun p => .tup [p.1, p.2])) :
    RC (CW (n + 3)) 41 [.ob 10, .d (tS f [x])] (xst b w) (.d (match r with | none => .non | some p => .tup [.str sPost, p.1, p.2])) (xst b w) := by
  intro Q q
  refine shape_op K b w n _ f h0 h9 hf a ar hfs ?_
  refine exB (.lenT bg1) (exC CD.eqI ?_)
  refine exB (.lenT bg1) (exC CD.eqI ?_)
  refine c_prefix K (n + 1) b _ a _ hi _ ?_
  refine exC (.d (.isN _)) ?_
  refine c_postfix K (n + 1) b _ a _ hj _ ?_
  refine exC (.d (.isN _)) ?_
  cases r with
  | none => exact q
  | some p =>
    refine exI ix0 ?_
    refine exI ix1 ?_
    rw [← cI.2.2] at q
    exact an bg3 q
theorem c_left_none (n : Nat) (x : D) (h m : D) (hs : RC (CW (n + 3)) 41 [.ob 10, .d x] (xst b w) (.d .non) (xst b w)) :
    RC (CW (n + 4)) 43 [.ob 10, .d x, .d h, .d m] (xst b w) (.d m) (xst b w) := by
  intro Q q
  refine K.c (fi := fi43) (ir := ir43) rfl rfl rfl ?_
  refine hs _ ?_
  exact exC (.d (.isN _)) q
theorem c_left_some (n : Nat) (x : D) (h m : Int) (kd : List Nat) (h' : Int) (k : Kd) (hs : RC (CW (n + 3)) 41 [.ob 10, .d x] (xst b w) (.d (.tup [.str kd, .int h', .str k.s])) (xst b w)) :
    RC (CW (n + 4)) 43 [.ob 10, .d x, .d (.int h), .d (.int m)] (xst b w) (.d (.int (if h' = h ∧ k.rb h' = h then h - 1 else m))) (xst b w) := by
  intro Q q
  refine K.c (fi := fi43) (ir := ir43) rfl rfl rfl ?_
  refine hs _ ?_
  refine exC (.d (.isN _)) ?_
  refine exI ix1 (exC CD.eqI ?_)
  refine ifB (fun e => ?_) (fun e => ?_)
  · refine ifF (fun c => Bool.false_ne_true (e.symm.trans c)) ?_
    rw [if_neg (fun c => Bool.false_ne_true (e.symm.trans (beq_iff_eq.mpr c.1)))] at q
    exact q
  · refine exI ix1 (exI ix2 ?_)
    refine c_bounds K (n + 2) h' k _ _ ?_
    refine exI ix1 (exC CD.eqI ?_)
    refine ifC (fun e2 => ?_) (fun e2 => ?_)
    · rw [if_pos ⟨beq_iff_eq.mp e, beq_iff_eq.mp e2⟩] at q
      exact exO (.sub _ _) q
    · rw [if_neg (fun c => e2 (beq_iff_eq.mpr c.2))] at q
      exact q
end
end Mn
end
section
namespace Mn
structure Wt (t : List Nat) (f c : Nat) : Prop where
  st : ∃ r, t = f :: r
  en : ∃ u, t = u ++ [c] ∧ u.length + 1 ≤ 1000
theorem Wt.len {t : List Nat} {f c : Nat} (w : Wt t f c) : t.length ≤ big := by
  obtain ⟨u, rfl, h⟩ := w.en
  rw [ap1, big_eq]; omega
theorem Wt.one (c : Nat) : Wt [c] c c := ⟨⟨[], rfl⟩, [], rfl, by decide⟩
theorem gvI {st : List AO} {x y : Int} : CA st .Eq (.d (.int x)) (.d (.int y)) (x == y) := CD.eqI
variable {CW NW : Nat → CallT} (K : Wk CW NW)
include K
section
variable (n : Nat) (b : Bs) (out work : List D) (last : List Nat) (pf : Bool) {t : List Nat} {f c : Nat} (w : Wt t f c)
include w
theorem raw_ (ho : out.length ≤ big) : RC (CW (n + 1)) 32 [.ob 10, .d (.str t)] (wst b out work last pf) (.d .non) (wst b (out ++ [.str t]) work [c] false) := by
  obtain ⟨u, rfl, h⟩ := w.en
  exact c_raw K n b out work last pf u c (by rw [big_eq]; omega) ho
theorem tok_ (hl : last = [] ∨ ∃ l, last = [l]) (ho : out.length + 1 ≤ big) : RC (CW (n + 5)) 33 [.ob 10, .d (.str t)] (wst b out work last pf) (.d .non) (wst b (out ++ sp last pf f ++ [.str t]) work [c] false) := by
  obtain ⟨r, e⟩ := w.st
  obtain ⟨u, e', h⟩ := w.en
  subst e
  exact c_token K n b out work last pf hl f r u c e' h ho
variable (a : Nat) (hx : b.texts[a]? = some (.str t)) (ha : a < 4294967296) (hp : plainN t = true) (hl : last = [] ∨ ∃ l, last = [l]) (ho : out.length + 8 ≤ big)
include hx ha hp ho
theorem txt_ (rest : List AO) : RC (CW (n + 5)) 27 [.ob 1, .d (.int a), .d (.boo true)] (bst b rest) (.d (.str t)) (bst b rest) := c_atom_text K n b rest a t hx ha w.len hp
include hl
noncomputable def preS (tight : Bool) (t : List Nat) (f c : Nat) (b : Bs) (out work : List D) (last : List Nat) (pf : Bool) : List AO :=
  if tight = true then wst b (out ++ sp last pf f ++ [.str t]) work [c] true else wst b (out ++ sp last pf f ++ [.str t] ++ [.str [32]]) work [32] false
theorem c_preop : RC (CW (n + 6)) 44 [.ob 10, .d (.int a)] (wst b out work last pf) (.d .non) (preS (tightN t) t f c b out work last pf) := by
  intro Q q
  refine K.c (fi := fi44) (ir := ir44) rfl rfl rfl ?_
  have hs := sp_len last pf f
  refine txt_ K n b out w a hx ha hp ho _ _ ?_
  refine tok_ K n b out work last pf w hl (by omega) _ ?_
  refine c_tight K (n + 2) t w.len _ _ ?_
  unfold preS at q
  refine ifC (fun h => ?_) (fun h => ?_)
  · rw [if_pos h] at q
    refine ex3 10 2 _ ⟨rfl, rfl, by exact Nat.le_of_ble_eq_true rfl, ?_⟩
    exact q
  · rw [if_neg h] at q
    refine raw_ K (n + 4) b _ work [c] false (codes1.1 ▸ Wt.one 32) (by rw [ap1, List.length_append]; omega) _ ?_
    rw [codes1.1]
    exact q
omit hl
noncomputable def infS (tight : Bool) (t : List Nat) (f c : Nat) (b : Bs) (out work : List D) (last : List Nat) (pf : Bool) : List AO :=
  if tight = true then wst b (out ++ sp last pf f ++ [.str t]) work [c] false else wst b (out ++ [.str [32]] ++ [.str t] ++ [.str [32]]) work [32] false
include hl
theorem c_infop (h7 : a ≠ 7) (h8 : a ≠ 8) : RC (CW (n + 6)) 45 [.ob 10, .d (.int a)] (wst b out work last pf) (.d .non) (infS (tightN t) t f c b out work last pf) := by
  intro Q q
  refine K.c (fi := fi45) (ir := ir45) rfl rfl rfl ?_
  refine txt_ K n b out w a hx ha hp ho _ _ ?_
  refine exC gvI (ifF (beqI (by omega)) ?_)
  refine exC gvI (ifF (beqI (by omega)) ?_)
  refine c_tight K (n + 2) t w.len _ _ ?_
  unfold infS at q
  refine ifC (fun h => ?_) (fun h => ?_)
  · rw [if_pos h] at q
    exact tok_ K n b out work last pf w hl (by omega) _ q
  · rw [if_neg h] at q
    refine raw_ K (n + 4) b _ work last pf (codes1.1 ▸ Wt.one 32) (by omega) _ ?_
    refine raw_ K (n + 4) b _ work [32] false w (by rw [ap1]; omega) _ ?_
    refine raw_ K (n + 4) b _ work [c] false (codes1.1 ▸ Wt.one 32) (by rw [ap1, ap1]; omega) _ ?_
    rw [codes1.1]
    exact q
omit hl
noncomputable def postS (tight : Bool) (t : List Nat) (f c : Nat) (b : Bs) (out work : List D) (last : List Nat) (pf : Bool) : List AO :=
  if tight = true then wst b (out ++ sp last pf f ++ [.str t]) work [c] false else wst b (out ++ [.str [32]] ++ [.str t]) work [c] false
include hl
theorem c_postop : RC (CW (n + 6)) 46 [.ob 10, .d (.int a)] (wst b out work last pf) (.d .non) (postS (tightN t) t f c b out work last pf) := by
  intro Q q
  refine K.c (fi := fi46) (ir := ir46) rfl rfl rfl ?_
  refine txt_ K n b out w a hx ha hp ho _ _ ?_
  refine c_tight K (n + 2) t w.len _ _ ?_
  unfold postS at q
  refine ifC (fun h => ?_) (fun h => ?_)
  · rw [if_pos h] at q
    exact tok_ K n b out work last pf w hl (by omega) _ q
  · rw [if_neg h] at q
    refine raw_ K (n + 4) b _ work last pf (codes1.1 ▸ Wt.one 32) (by omega) _ ?_
    rw [codes1.1]
    exact raw_ K (n + 4) b _ work [32] false w (by rw [ap1]; omega) _ q
theorem c_watom (al : Bool) (h1 : DG b.pre (.int a) none) (h2 : DG b.inf (.int a) none) (h3 : DG b.post (.int a) none) :
    RC (CW (n + 6)) 38 [.ob 10, .d (.int a), .d (.boo al)] (wst b out work last pf) (.d .non) (wst b (out ++ sp last pf f ++ [.str t]) work [c] false) := by
  intro Q q
  refine K.c (fi := fi38) (ir := ir38) rfl rfl rfl ?_
  refine txt_ K n b out w a hx ha hp ho _ _ ?_
  cases al with
  | true => exact tok_ K n b out work last pf w hl (by omega) _ q
  | false =>
    refine c_isop_no K (n + 4) b _ (.int a) h1 h2 h3 _ ?_
    exact tok_ K n b out work last pf w hl (by omega) _ q
end
end Mn
end
section
namespace Mn
noncomputable def encL (tail : D) : List D → D
  | [] => tail
  | x :: r => tS 0 [x, encL tail r]
theorem items_loop {C N : CallT} (tg : List Nat) (k : Int) (l : List D) (ht : ((tg == [115]) && (k == 0)) = false) {st : List AO} {Q : Fl → Vars → List AO → Prop} : ∀ (items acc : List D), acc.length + items.length ≤ big →
    Q .nx [some (.d (.tup (.str tg :: .int k :: l))), some (.own (acc ++ items))] st →
    loopW (fun vs st Q => wpX P0 C N (whlT ir9 1) true vs st Q) (fun vs st Q => wpSs P0 C N (forB ir9 1) vs st Q) (items.length + 1) [some (.d (encL (.tup (.str tg :: .int k :: l)) items)), some (.own acc)] st Q := by
  intro items
  induction items with
  | nil =>
    intro acc _ q
    rw [List.append_nil] at q
    refine exI ix0 (exC (eqL cA.2.2.2.1) ?_)
    refine ifB (fun h => ?_) (fun h => ?_)
    · rw [h]; exact q
    · refine exI ix1 (exC CD.eqI ?_)
      rw [h] at ht
      replace ht : (k == 0) = false := ht
      show match AV.d (.boo (k == 0)) with | .d (.boo true) => _ | .d (.boo false) => _ | _ => False
      rw [ht]; exact q
  | cons x r ih =>
    intro acc h q
    rw [List.length_cons] at h
    refine exI ix0 (exC (eqL cA.2.2.2.1) ?_)
    refine exI ix1 (exC CD.eqI ?_)
    refine exI ix2 (exI ix0 (an (by omega) ?_))
    refine exI ix2 (exI ix1 ?_)
    refine ih (acc ++ [x]) (by rw [ap1]; omega) ?_
    rw [List.append_assoc]; exact q
noncomputable def rowT (x : D) (m : Int) (al : Bool) : D := .tup [.str [116, 101, 114, 109], x, .int m, .boo al]
noncomputable def rowR (t : List Nat) : D := .tup [.str [114, 97, 119], .str t, .int 0, .boo false]
theorem cR : codes "term" = [116, 101, 114, 109] ∧ codes "raw" = [114, 97, 119] ∧ codes ")" = [41] ∧ codes "," = [44] ∧ codes "|" = [124] ∧ codes "]" = [93] ∧ codes "[" = [91] ∧ codes "}" = [125] := by
  refine ⟨?_, ?_, ?_, ?_, ?_, ?_, ?_, ?_⟩ <;> kernel_rfl
noncomputable def addRow (o : Option (List Nat)) (acc : List D) (x : D) : List D := (if acc.isEmpty = true then (match o with | some t => [rowR t] | none => []) else acc ++ [rowR [44]]) ++ [rowT x 999 true]
theorem addRow_len (o : Option (List Nat)) (acc : List D) (x : D) : (addRow o acc x).length ≤ acc.length + 2 := by
  unfold addRow
  by_cases h : acc.isEmpty = true
  · rw [if_pos h, List.length_append]
    cases o <;> exact Nat.le_add_left _ _
  · rw [if_neg h, ap1, ap1]; exact Nat.le_refl _
theorem rows_len (o : Option (List Nat)) (items : List D) : ∀ acc : List D, (items.foldl (addRow o) acc).length ≤ acc.length + 2 * items.length := by
  induction items with
  | nil => intro acc; exact Nat.le_refl _
  | cons x r ih =>
    intro acc
    have h1 := ih (addRow o acc x)
    have h2 := addRow_len o acc x
    rw [List.foldl_cons, List.length_cons]
    omega
theorem foldl_ne (o : Option (List Nat)) (items : List D) : ∀ acc : List D, acc.length ≤ (items.foldl (addRow o) acc).length := by
  induction items with
  | nil => intro acc; exact Nat.le_refl _
  | cons x r ih =>
    intro acc
    rw [List.foldl_cons]
    refine Nat.le_trans ?_ (ih _)
    unfold addRow
    by_cases h : acc.isEmpty = true
    · rw [if_pos h, List.isEmpty_iff.mp h]; exact Nat.zero_le _
    · rw [if_neg h, ap1, ap1]; omega
theorem ap2 {α : Type} (A : List α) (x y : α) : A ++ [x, y] = A ++ [x] ++ [y] := (List.append_assoc A [x] [y]).symm
theorem rR {t : String} {l : List Nat} (h : codes t = l) : rowR l = .tup [.str (codes "raw"), .str (codes t), .int 0, .boo false] := by rw [h, cR.2.1]; rfl
theorem rT (x : D) (m : Int) (al : Bool) : rowT x m al = .tup [.str (codes "term"), x, .int m, .boo al] := by rw [cR.1]; rfl
theorem add_nil (o : Option (List Nat)) {acc : List D} (x : D) (h : acc.isEmpty = true) : addRow o acc x = acc ++ (match o with | some t => [rowR t] | none => []) ++ [rowT x 999 true] := by
  unfold addRow; rw [if_pos h, List.isEmpty_iff.mp h]; rfl
theorem add_cons (o : Option (List Nat)) {acc : List D} (x : D) (h : ¬ acc.isEmpty = true) : addRow o acc x = acc ++ [rowR [44]] ++ [rowT x 999 true] := by
  unfold addRow; rw [if_neg h]
theorem wl_loop {C N : CallT} {t0 t1 t2 t3 : Option AV} {p : Pos} {st : List AO} {Q : Fl → Vars → List AO → Prop} : ∀ (items acc : List D) (x5 : Option AV), acc.length + 2 * items.length ≤ big →
    (∀ y, Q .nx [t0, t1, t2, t3, some (.own (items.foldl (addRow none) acc)), y] st) → loopF (.nm 5 p) (fun vs st Q => wpSs P0 C N (forB ir39 3) vs st Q) items [t0, t1, t2, t3, some (.own acc), x5] st Q := by
  intro items
  induction items with
  | nil => intro acc x _ q; exact q x
  | cons x r ih =>
    intro acc x5 h q
    rw [List.length_cons] at h
    have hlen := addRow_len none acc x
    have key := ih (addRow none acc x) (some (.d x)) (by omega) q
    refine an rfl (exT (.own (l := acc) (by omega)) ?_)
    refine ifC (fun e => ?_) (fun e => ?_)
    · rw [add_cons none x (fun c => Bool.false_ne_true ((nb e).symm.trans c)), rR cR.2.2.2.1, rT] at key
      exact an bg4 (an (by omega) (an bg4 (an (by rw [ap1]; omega) key)))
    · rw [add_nil none x (nf e), rT, List.append_nil] at key
      exact an bg4 (an (by omega) key)
theorem wf_loop {C N : CallT} {t0 t1 : Option AV} {p : Pos} {st : List AO} {Q : Fl → Vars → List AO → Prop} : ∀ (items acc : List D) (x5 : Option AV), acc.length + 2 * items.length ≤ big →
    (∀ y, Q .nx [t0, t1, some (.own (items.foldl (addRow (some [40])) acc)), y] st) → loopF (.nm 3 p) (fun vs st Q => wpSs P0 C N (forB ir40 2) vs st Q) items [t0, t1, some (.own acc), x5] st Q := by
  intro items
  induction items with
  | nil => intro acc x _ q; exact q x
  | cons x r ih =>
    intro acc x5 h q
    rw [List.length_cons] at h
    have hlen := addRow_len (some [40]) acc x
    have key := ih (addRow (some [40]) acc x) (some (.d x)) (by omega) q
    refine an rfl (exT (.own (l := acc) (by omega)) ?_)
    refine ifC (fun e => ?_) (fun e => ?_)
    · rw [add_cons _ x (fun c => Bool.false_ne_true ((nb e).symm.trans c)), rR cR.2.2.2.1, rT] at key
      exact an bg4 (an (by omega) (an bg4 (an (by rw [ap1]; omega) key)))
    · rw [add_nil _ x (nf e), rT] at key
      replace key : loopF (.nm 3 p) (fun vs st Q => wpSs P0 C N (forB ir40 2) vs st Q) r [t0, t1, some (.own (acc ++ [rowR [40]] ++ [.tup [.str (codes "term"), x, .int 999, .boo true]])), some (.d x)] st Q := key
      rw [rR codes1.2.1] at key
      exact an bg4 (an (by omega) (an bg4 (an (by rw [ap1]; omega) key)))
theorem eq_nilT {st : List AO} (tg : List Nat) (k : Int) (l : List D) : CA st .NotEq (.d (.tup (.str tg :: .int k :: l))) (.d (.tup [.str (codes "a"), .int 0])) (!((tg == [97]) && ((k == 0) && l.isEmpty))) := by
  rw [cA.1]
  refine .d (.ne (.tup (.cc (.ss _ _) (.cc (.ii _ _) ?_))))
  cases l
  · exact .nn
  · exact .cn _ _
variable {CW NW : Nat → CallT} (K : Wk CW NW)
include K
theorem c_list_items (n : Nat) (tg : List Nat) (k : Int) (l : List D) (ht : ((tg == [115]) && (k == 0)) = false) (items : List D) (h : items.length ≤ big) (st : List AO) :
    RC (CW (n + 1)) 9 [.d (encL (.tup (.str tg :: .int k :: l)) items)] st (.d (.tup [.lst items, .tup (.str tg :: .int k :: l)])) st := by
  intro Q q
  refine K.c (fi := fi9) (ir := ir9) rfl rfl rfl ?_
  refine an (Nat.lt_succ_self 1) (Exists.intro (items.length + 1) ?_)
  refine items_loop tg k l ht items [] (by rw [List.length_nil]; omega) ?_
  exact an bg2 q
noncomputable def rowsL (tl : D) (nil : Bool) (items : List D) : List D := items.foldl (addRow none) [] ++ (if nil = true then [] else [rowR [124], rowT tl 999 true]) ++ [rowR [93]]
noncomputable def rowsF (items : List D) : List D := items.foldl (addRow (some [40])) [] ++ [rowR [41]]
section
variable (n : Nat) (b : Bs) (out work : List D) (last : List Nat) (pf : Bool) (hl : last = [] ∨ ∃ l, last = [l]) (ho : out.length + 8 ≤ big)
include hl ho
theorem c_wlist (tg : List Nat) (k : Int) (l : List D) (ht : ((tg == [115]) && (k == 0)) = false) (items : List D) (h : work.length + 2 * items.length + 4 ≤ big) :
    RC (CW (n + 6)) 39 [.ob 10, .d (encL (.tup (.str tg :: .int k :: l)) items)] (wst b out work last pf) (.d .non)
      (wst b (out ++ sp last pf 91 ++ [.str [91]]) (work ++ (rowsL (.tup (.str tg :: .int k :: l)) ((tg == [97]) && ((k == 0) && l.isEmpty)) items).reverse) [91] false) := by
  intro Q q
  refine K.c (fi := fi39) (ir := ir39) rfl rfl rfl ?_
  have hf := rows_len none items []
  rw [List.length_nil] at hf
  refine c_list_items K (n + 4) tg k l ht items (by omega) _ _ ?_
  refine tok_ K n b out work last pf (cR.2.2.2.2.2.2.1 ▸ Wt.one 91) hl (by omega) _ ?_
  rw [cR.2.2.2.2.2.2.1]
  refine an (by exact Nat.le_of_ble_eq_true rfl) ?_
  refine exF (.lst (by omega)) ?_
  refine wl_loop items [] _ (by rw [List.length_nil]; omega) fun y => ?_
  refine an bg2 (exC (eq_nilT tg k l) ?_)
  refine ifC (fun e => ?_) (fun e => ?_)
  · have el : rowsL (.tup (.str tg :: .int k :: l)) false items = items.foldl (addRow none) [] ++ [.tup [.str (codes "raw"), .str (codes "|"), .int 0, .boo false]] ++ [.tup [.str (codes "term"), .tup (.str tg :: .int k :: l), .int 999, .boo true]] ++ [.tup [.str (codes "raw"), .str (codes "]"), .int 0, .boo false]] := by
      unfold rowsL
      rw [if_neg Bool.false_ne_true, rR cR.2.2.2.2.1, rR cR.2.2.2.2.2.1, rT, ap2]
    rw [nb e, el] at q
    refine an bg4 (an (by omega) (an bg4 (an (by rw [ap1]; omega) (an bg4 (an (by rw [ap1, ap1]; omega) ?_)))))
    refine c_later K (n + 4) b (out ++ sp last pf 91 ++ [.str [91]]) work [91] false _ ?_ _ ?_
    · rw [ap1, ap1, ap1]; omega
    · exact q
  · have el : rowsL (.tup (.str tg :: .int k :: l)) true items = items.foldl (addRow none) [] ++ [.tup [.str (codes "raw"), .str (codes "]"), .int 0, .boo false]] := by
      unfold rowsL
      rw [if_pos rfl, List.append_nil, rR cR.2.2.2.2.2.1]
    rw [nf e, el] at q
    refine an bg4 (an (by omega) ?_)
    refine c_later K (n + 4) b (out ++ sp last pf 91 ++ [.str [91]]) work [91] false _ ?_ _ ?_
    · rw [ap1]; omega
    · exact q
theorem c_wfun {t : List Nat} {f0 c : Nat} (w : Wt t f0 c) (a : Nat) (hx : b.texts[a]? = some (.str t)) (ha : a < 4294967296) (hp : plainN t = true) (f : Nat) (hf : f < 4294967296) (ar : D) (hfs : b.fs[f]? = some (.tup [.int a, ar])) (items : List D) (h : work.length + 2 * items.length + 4 ≤ big) :
    RC (CW (n + 6)) 40 [.ob 10, .d (tS f items)] (wst b out work last pf) (.d .non) (wst b (out ++ sp last pf f0 ++ [.str t]) (work ++ (rowsF items).reverse) [c] false) := by
  intro Q q
  refine K.c (fi := fi40) (ir := ir40) rfl rfl rfl ?_
  have hf' := rows_len (some [40]) items []
  rw [List.length_nil] at hf'
  refine exI ix1 ?_
  refine c_name K (n + 4) b _ f (.int a) ar hfs hf _ ?_
  refine txt_ K n b out w a hx ha hp ho _ _ ?_
  refine tok_ K n b out work last pf w hl (by omega) _ ?_
  refine an (by exact Nat.le_of_ble_eq_true rfl) ?_
  refine exI ix2 (exF (.tup (by omega)) ?_)
  refine wf_loop items [] _ (by rw [List.length_nil]; omega) fun y => ?_
  have el : rowsF items = items.foldl (addRow (some [40])) [] ++ [.tup [.str (codes "raw"), .str (codes ")"), .int 0, .boo false]] := by
    unfold rowsF; rw [rR cR.2.2.1]
  rw [el] at q
  refine an bg4 (an (by omega) ?_)
  refine c_later K (n + 4) b (out ++ sp last pf f0 ++ [.str t]) work [c] false _ ?_ _ ?_
  · rw [ap1]; omega
  · exact q
end
end Mn
end
section
namespace Mn
noncomputable def dropB : Nat → Ss → Ss
  | 0, s => s
  | k + 1, .cons _ r => dropB k r
  | _, .nil => .nil
noncomputable def parS (c : Bool) (b : Bs) (out work : List D) (last : List Nat) (pf : Bool) : List AO := if c = true then wst b (out ++ sp last pf 40 ++ [.str [40]]) work [40] false else wst b out work last pf
noncomputable def parE (c : Bool) : List D := if c = true then [rowR [41]] else []
theorem len2 {α : Type} (a : α) (l : List α) : (a :: l).length = l.length + 1 := rfl
variable {CW NW : Nat → CallT} (K : Wk CW NW)
include K
section
variable (n : Nat) (b : Bs) (out work : List D) (last : List Nat) (pf : Bool)
theorem wop_start (hl : last = [] ∨ ∃ l, last = [l]) (ho : out.length + 8 ≤ big) (f a : Nat) (l : List D) (hf : f < 4294967296) (ar : D) (hfs : b.fs[f]? = some (.tup [.int a, ar])) (kd : List Nat) (h m : Int) (k : Kd) {Q : AV → List AO → Prop}
    (H : wpSs P0 (CW (n + 5)) (NW (n + 5)) (dropB 6 ir42) [some (.ob 10), some (.d (tS f l)), some (.d (.tup [.str kd, .int h, .str k.s])), some (.d (.int m)), some (.d (.str kd)), some (.d (.int h)), some (.d (.str k.s)), some (.d (.int (k.lb h))), some (.d (.int (k.rb h))), some (.d (.int a)), some (.d (.tup l)), some (.own [])]
      (parS (decide (m < h)) b out work last pf) (retQ Q)) : CW (n + 6) 42 [.ob 10, .d (tS f l), .d (.tup [.str kd, .int h, .str k.s]), .d (.int m)] (wst b out work last pf) Q := by
  refine K.c (fi := fi42) (ir := ir42) rfl rfl rfl ?_
  refine c_bounds K (n + 4) h k _ _ ?_
  refine exI ix1 ?_
  refine c_name K (n + 4) b _ f (.int a) ar hfs hf _ ?_
  refine exI ix2 ?_
  refine an (by exact Nat.le_of_ble_eq_true rfl) ?_
  refine exC (.d (.gt _ _)) ?_
  unfold parS at H
  refine ifC (fun e => ?_) (fun e => ?_)
  · rw [if_pos e] at H
    refine tok_ K n b out work last pf (codes1.2.1 ▸ Wt.one 40) hl (by omega) _ ?_
    rw [codes1.2.1]
    exact H
  · rw [if_neg e] at H
    exact H
theorem wop_end (acc : List D) (h m : Int) (v0 v1 v2 v4 v6 v7 v8 v9 : Option AV) (hw : work.length + acc.length + 1 ≤ big) {Q : AV → List AO → Prop} (q : Q (.d .non) (wst b out (work ++ (acc ++ parE (decide (m < h))).reverse) last pf)) :
    wpSs P0 (CW (n + 1)) (NW (n + 1)) (dropB 7 ir42) [some (.ob 10), v0, v1, some (.d (.int m)), v2, some (.d (.int h)), v4, v6, v7, v8, v9, some (.own acc)] (wst b out work last pf) (retQ Q) := by
  refine exC (.d (.gt _ _)) ?_
  unfold parE at q
  refine ifC (fun e => ?_) (fun e => ?_)
  · rw [if_pos e, rR cR.2.2.1] at q
    refine an bg4 (an (by omega) ?_)
    refine c_later K n b out work last pf _ ?_ _ ?_
    · rw [ap1]; omega
    · exact q
  · rw [if_neg e, List.append_nil] at q
    refine c_later K n b out work last pf _ ?_ _ ?_
    · omega
    · exact q
end
section
variable (n : Nat) (b : Bs) (out work : List D) (last : List Nat) (pf : Bool) (hl : last = [] ∨ ∃ l, last = [l]) (ho : out.length + 8 ≤ big) (hw : work.length + 4 ≤ big) (f a : Nat) (hf : f < 4294967296) (ar : D) (hfs : b.fs[f]? = some (.tup [.int a, ar])) (h m ll : Int) (k : Kd)
include hl ho hw hf hfs
theorem c_wop_inf (x y : D) (HL : ∀ out last pf, RC (CW (n + 5)) 43 [.ob 10, .d x, .d (.int h), .d (.int (k.lb h))] (wst b out work last pf) (.d (.int ll)) (wst b out work last pf)) :
    RC (CW (n + 6)) 42 [.ob 10, .d (tS f [x, y]), .d (.tup [.str sInf, .int h, .str k.s]), .d (.int m)] (wst b out work last pf) (.d .non)
      (parS (decide (m < h)) b out (work ++ ([rowT x ll false, .tup [.str sInf, .int a, .int 0, .boo false], rowT y (k.rb h) false] ++ parE (decide (m < h))).reverse) last pf) := by
  intro Q q
  refine wop_start K n b out work last pf hl ho f a _ hf ar hfs _ h m k ?_
  have rest : ∀ out' last' pf', Q (.d .non) (wst b out' (work ++ ([rowT x ll false, .tup [.str sInf, .int a, .int 0, .boo false], rowT y (k.rb h) false] ++ parE (decide (m < h))).reverse) last' pf') → wpSs P0 (CW (n + 5)) (NW (n + 5)) (dropB 6 ir42) [some (.ob 10), some (.d (tS f [x, y])), some (.d (.tup [.str sInf, .int h, .str k.s])), some (.d (.int m)), some (.d (.str sInf)), some (.d (.int h)), some (.d (.str k.s)), some (.d (.int (k.lb h))), some (.d (.int (k.rb h))), some (.d (.int a)), some (.d (.tup [x, y])), some (.own [])]
      (wst b out' work last' pf') (retQ Q) := by
    intro out' last' pf' q
    rw [rT, rT] at q
    refine exC (eqL cI.2.1) ?_
    refine exI ix0 (exI ix0 ?_)
    refine HL out' last' pf' _ ?_
    refine an bg4 (an (Nat.zero_le _) (an bg4 (an bg1 (exC (eqL cI.1) ?_))))
    refine exI ix1 (an bg4 (an bg2 ?_))
    exact wop_end K (n + 4) b out' work last' pf' _ h m _ _ _ _ _ _ _ _ (by show _ + 3 + 1 ≤ _; omega) q
  unfold parS at q ⊢
  by_cases e : decide (m < h) = true
  · rw [if_pos e] at q ⊢; exact rest _ _ _ q
  · rw [if_neg e] at q ⊢; exact rest _ _ _ q
theorem c_wop_post (x : D) (HL : ∀ out last pf, RC (CW (n + 5)) 43 [.ob 10, .d x, .d (.int h), .d (.int (k.lb h))] (wst b out work last pf) (.d (.int ll)) (wst b out work last pf)) :
    RC (CW (n + 6)) 42 [.ob 10, .d (tS f [x]), .d (.tup [.str sPost, .int h, .str k.s]), .d (.int m)] (wst b out work last pf) (.d .non)
      (parS (decide (m < h)) b out (work ++ ([rowT x ll false, .tup [.str sPost, .int a, .int 0, .boo false]] ++ parE (decide (m < h))).reverse) last pf) := by
  intro Q q
  refine wop_start K n b out work last pf hl ho f a _ hf ar hfs _ h m k ?_
  have rest : ∀ out' last' pf', Q (.d .non) (wst b out' (work ++ ([rowT x ll false, .tup [.str sPost, .int a, .int 0, .boo false]] ++ parE (decide (m < h))).reverse) last' pf') → wpSs P0 (CW (n + 5)) (NW (n + 5)) (dropB 6 ir42) [some (.ob 10), some (.d (tS f [x])), some (.d (.tup [.str sPost, .int h, .str k.s])), some (.d (.int m)), some (.d (.str sPost)), some (.d (.int h)), some (.d (.str k.s)), some (.d (.int (k.lb h))), some (.d (.int (k.rb h))), some (.d (.int a)), some (.d (.tup [x])), some (.own [])]
      (wst b out' work last' pf') (retQ Q) := by
    intro out' last' pf' q
    rw [rT] at q
    refine exC (eqL cI.2.1) ?_
    refine exI ix0 (exI ix0 ?_)
    refine HL out' last' pf' _ ?_
    refine an bg4 (an (Nat.zero_le _) (an bg4 (an bg1 (exC (eqL cI.1) ?_))))
    exact wop_end K (n + 4) b out' work last' pf' _ h m _ _ _ _ _ _ _ _ (by show _ + 2 + 1 ≤ _; omega) q
  unfold parS at q ⊢
  by_cases e : decide (m < h) = true
  · rw [if_pos e] at q ⊢; exact rest _ _ _ q
  · rw [if_neg e] at q ⊢; exact rest _ _ _ q
theorem c_wop_pre (x : D) {Q : AV → List AO → Prop} (out' : List D) (last' : List Nat) (pf' : Bool) (e : parS (decide (m < h)) b out work last pf = wst b out' work last' pf')
    (HP : ∀ Q' : AV → List AO → Prop, (∀ v out'' last'' pf'', Q (.d .non) (wst b out'' (work ++ ([rowT x (k.rb h) false] ++ parE (decide (m < h))).reverse) last'' pf'') → Q' v (wst b out'' work last'' pf'')) → CW (n + 5) 44 [.ob 10, .d (.int a)] (wst b out' work last' pf') Q') :
    CW (n + 6) 42 [.ob 10, .d (tS f [x]), .d (.tup [.str sPre, .int h, .str k.s]), .d (.int m)] (wst b out work last pf) Q := by
  refine wop_start K n b out work last pf hl ho f a _ hf ar hfs _ h m k ?_
  rw [e]
  refine exC (eqL cI.2.1) ?_
  refine HP _ fun v out'' last'' pf'' q => ?_
  rw [rT] at q
  refine exI ix0 (an bg4 (an (Nat.zero_le _) ?_))
  exact wop_end K (n + 4) b out'' work last'' pf'' _ h m _ _ _ _ _ _ _ _ (by show _ + 1 + 1 ≤ _; omega) q
end
end Mn
end
section
namespace Mn
noncomputable def tA (a : Nat) : D := .tup [.str [97], .int a]
variable {CW NW : Nat → CallT} (K : Wk CW NW)
include K
section
variable (n : Nat) (b : Bs) (out work : List D) (last : List Nat) (pf al : Bool) (m : Int)
theorem w_atom (a : Nat) {Q : AV → List AO → Prop} (H : CW n 38 [.ob 10, .d (.int a), .d (.boo al)] (wst b out work last pf) fun _ st => Q (.d .non) st) :
    CW (n + 1) 36 [.ob 10, .d (tA a), .d (.int m), .d (.boo al)] (wst b out work last pf) Q := by
  refine K.c (fi := fi36) (ir := ir36) rfl rfl rfl ?_
  refine exI ix0 ?_
  refine exC (eqL cA.2.1) ?_
  refine exC (eqL cA.2.2.1) ?_
  refine exC (eqL cA.1) ?_
  exact exI ix1 H
theorem w_list (l : List D) {Q : AV → List AO → Prop} (H : CW n 39 [.ob 10, .d (tS 0 l)] (wst b out work last pf) fun _ st => Q (.d .non) st) :
    CW (n + 1) 36 [.ob 10, .d (tS 0 l), .d (.int m), .d (.boo al)] (wst b out work last pf) Q := by
  refine K.c (fi := fi36) (ir := ir36) rfl rfl rfl ?_
  refine exI ix0 ?_
  refine exC (eqL cA.2.1) ?_
  refine exC (eqL cA.2.2.1) ?_
  refine exC (eqL cA.1) ?_
  refine exI ix1 (exC CD.eqI ?_)
  exact H
theorem w_curly (x : D) (hl : last = [] ∨ ∃ l, last = [l]) (ho : out.length + 8 ≤ big) (hw : work.length + 4 ≤ big) :
    RC (CW (n + 6)) 36 [.ob 10, .d (tS 9 [x]), .d (.int m), .d (.boo al)] (wst b out work last pf) (.d .non) (wst b (out ++ sp last pf 123 ++ [.str [123]]) (work ++ [rowR [125], rowT x 1201 true]) [123] false) := by
  intro Q q
  refine K.c (fi := fi36) (ir := ir36) rfl rfl rfl ?_
  rw [rR cR.2.2.2.2.2.2.2, rT] at q
  refine exI ix0 ?_
  refine exC (eqL cA.2.1) ?_
  refine exC (eqL cA.2.2.1) ?_
  refine exC (eqL cA.1) ?_
  refine exI ix1 (exC CD.eqI ?_)
  refine c_numbered K b (wxr out work last pf) (n + 4) _ _ ?_
  refine exI ix1 (exC CD.eqI ?_)
  refine tok_ K n b out work last pf (cA.2.2.2.2 ▸ Wt.one 123) hl (by omega) _ ?_
  rw [cA.2.2.2.2]
  refine exI ix2 (exI ix0 (an bg4 (an bg4 (an bg2 ?_))))
  refine c_later K (n + 4) b _ work [123] false _ ?_ _ ?_
  · show work.length + 2 ≤ big; omega
  · exact q
theorem w_op (f : Nat) (l : List D) (h0 : f ≠ 0) (h9 : f ≠ 9) (q : List D) {Q : AV → List AO → Prop} (HS : RC (CW (n + 1)) 41 [.ob 10, .d (tS f l)] (wst b out work last pf) (.d (.tup q)) (wst b out work last pf))
    (H : CW (n + 1) 42 [.ob 10, .d (tS f l), .d (.tup q), .d (.int m)] (wst b out work last pf) fun _ st => Q (.d .non) st) :
    CW (n + 2) 36 [.ob 10, .d (tS f l), .d (.int m), .d (.boo al)] (wst b out work last pf) Q := by
  refine K.c (fi := fi36) (ir := ir36) rfl rfl rfl ?_
  refine exI ix0 ?_
  refine exC (eqL cA.2.1) ?_
  refine exC (eqL cA.2.2.1) ?_
  refine exC (eqL cA.1) ?_
  refine exI ix1 (exC CD.eqI ?_)
  refine ifF (beqI (by omega)) ?_
  refine c_numbered K b (wxr out work last pf) n _ _ ?_
  refine exI ix1 (exC CD.eqI ?_)
  refine ifB (fun e => ?_) (fun e => absurd e (beqI (by omega)))
  refine ifF (beqI (by omega)) ?_
  refine HS _ ?_
  refine exC (.d (.is_ _)) ?_
  exact H
theorem w_fn (f : Nat) (l : List D) (h0 : f ≠ 0) (h9 : f ≠ 9) {Q : AV → List AO → Prop} (HS : RC (CW (n + 1)) 41 [.ob 10, .d (tS f l)] (wst b out work last pf) (.d .non) (wst b out work last pf))
    (H : CW (n + 1) 40 [.ob 10, .d (tS f l)] (wst b out work last pf) fun _ st => Q (.d .non) st) :
    CW (n + 2) 36 [.ob 10, .d (tS f l), .d (.int m), .d (.boo al)] (wst b out work last pf) Q := by
  refine K.c (fi := fi36) (ir := ir36) rfl rfl rfl ?_
  refine exI ix0 ?_
  refine exC (eqL cA.2.1) ?_
  refine exC (eqL cA.2.2.1) ?_
  refine exC (eqL cA.1) ?_
  refine exI ix1 (exC CD.eqI ?_)
  refine ifF (beqI (by omega)) ?_
  refine c_numbered K b (wxr out work last pf) n _ _ ?_
  refine exI ix1 (exC CD.eqI ?_)
  refine ifB (fun e => ?_) (fun e => absurd e (beqI (by omega)))
  refine ifF (beqI (by omega)) ?_
  refine HS _ ?_
  refine exC (.d (.is_ _)) ?_
  exact H
end
end Mn
end
section
namespace Mn
noncomputable def LW (CW NW : Nat → CallT) (n : Nat) (vs : Vars) (st : List AO) (Q : Fl → Vars → List AO → Prop) : Prop := ∃ fu, loopW (fun vs st Q => wpX P0 (CW n) (NW n) (whlT ir31 4) true vs st Q) (fun vs st Q => wpSs P0 (CW n) (NW n) (forB ir31 4) vs st Q) fu vs st Q
theorem pop_ (b : Bs) (out work : List D) (last : List Nat) (pf : Bool) (x : D) (h : work.length + 1 ≤ big) : MbR (wst b out (work ++ [x]) last pf) .pop (.ob 16) [] (.d x) (wst b out work last pf) := by
  have hp := MbR.pop (st := wst b out (work ++ [x]) last pf) (n := 16) (l := work ++ [x]) (x := x) rfl (by rw [ap1]; exact h) List.getLast?_concat
  rw [List.dropLast_concat] at hp
  exact hp
theorem more_ (b : Bs) (out work : List D) (last : List Nat) (pf : Bool) (x : D) (h : work.length + 1 ≤ big) : TrR (wst b out (work ++ [x]) last pf) (.ob 16) true := by
  have e : (!(work ++ [x]).isEmpty) = true := by cases work <;> rfl
  rw [← e]
  exact .ob rfl (by rw [ap1]; exact h)
variable {CW NW : Nat → CallT}
section
variable (n : Nat) (t m : AV) (k3 k4 k5 k6 : Option AV) (b : Bs) (out work : List D) (last : List Nat) (pf : Bool) {Q : Fl → Vars → List AO → Prop}
theorem lw_end (q : Q .nx [some (.ob 10), some t, some m, k3, k4, k5, k6] (wst b out [] last pf)) : LW CW NW n [some (.ob 10), some t, some m, k3, k4, k5, k6] (wst b out [] last pf) Q :=
  Exists.intro 1 (exT (b := false) (.ob (l := []) rfl (Nat.zero_le _)) q)
theorem lw_term (h : work.length + 1 ≤ big) (x : D) (l : Int) (al : Bool) (st' : List AO) (H : RC (CW n) 36 [.ob 10, .d x, .d (.int l), .d (.boo al)] (wst b out work last pf) (.d .non) st')
    (q : LW CW NW n [some (.ob 10), some t, some m, some (.d (.str [116, 101, 114, 109])), some (.d x), some (.d (.int l)), some (.d (.boo al))] st' Q) :
    LW CW NW n [some (.ob 10), some t, some m, k3, k4, k5, k6] (wst b out (work ++ [rowT x l al]) last pf) Q := by
  obtain ⟨fu, q⟩ := q
  refine Exists.intro (fu + 1) (exT (more_ b out work last pf _ h) ?_)
  refine an (.lst rfl rfl) (exM (pop_ b out work last pf _ h) ?_)
  refine exC (eqL cR.1) ?_
  exact H _ q
theorem lw_other (h : work.length + 1 ≤ big) (kd : List Nat) (it : D) (st' : List AO)
    (H : (kd = sInf ∧ RC (CW n) 45 [.ob 10, .d it] (wst b out work last pf) (.d .non) st') ∨ (kd = sPost ∧ RC (CW n) 46 [.ob 10, .d it] (wst b out work last pf) (.d .non) st') ∨ (kd = [114, 97, 119] ∧ RC (CW n) 32 [.ob 10, .d it] (wst b out work last pf) (.d .non) st'))
    (q : LW CW NW n [some (.ob 10), some t, some m, some (.d (.str kd)), some (.d it), some (.d (.int 0)), some (.d (.boo false))] st' Q) :
    LW CW NW n [some (.ob 10), some t, some m, k3, k4, k5, k6] (wst b out (work ++ [.tup [.str kd, it, .int 0, .boo false]]) last pf) Q := by
  obtain ⟨fu, q⟩ := q
  refine Exists.intro (fu + 1) (exT (more_ b out work last pf _ h) ?_)
  refine an (.lst rfl rfl) (exM (pop_ b out work last pf _ h) ?_)
  rcases H with ⟨rfl, H⟩ | ⟨rfl, H⟩ | ⟨rfl, H⟩
  · refine exC (eqL cR.1) ?_
    refine exC (eqL cI.1) ?_
    exact H _ q
  · refine exC (eqL cR.1) ?_
    refine exC (eqL cI.1) ?_
    refine exC (eqL cI.2.2) ?_
    exact H _ q
  · refine exC (eqL cR.1) ?_
    refine exC (eqL cI.1) ?_
    refine exC (eqL cI.2.2) ?_
    exact H _ q
end
noncomputable def Runs (CW NW : Nat → CallT) (n : Nat) (b : Bs) (s s' : List D × List D × List Nat × Bool) : Prop := ∀ (t m : AV) (Q : Fl → Vars → List AO → Prop), (∀ k3 k4 k5 k6 : Option AV, LW CW NW n [some (.ob 10), some t, some m, k3, k4, k5, k6] (wst b s'.1 s'.2.1 s'.2.2.1 s'.2.2.2) Q) → ∀ k3 k4 k5 k6 : Option AV, LW CW NW n [some (.ob 10), some t, some m, k3, k4, k5, k6] (wst b s.1 s.2.1 s.2.2.1 s.2.2.2) Q
theorem Runs.refl (n : Nat) (b : Bs) (s : List D × List D × List Nat × Bool) : Runs CW NW n b s s := fun _ _ _ h => h
theorem Runs.trans {n : Nat} {b : Bs} {s s' s'' : List D × List D × List Nat × Bool} (x : Runs CW NW n b s s') (y : Runs CW NW n b s' s'') : Runs CW NW n b s s'' := fun t m Q h => x t m Q (y t m Q h)
theorem runs_term {n : Nat} {b : Bs} {out w0 out' w' : List D} {last last' : List Nat} {pf pf' : Bool} (h : w0.length + 1 ≤ big) {x : D} {l : Int} {al : Bool}
    (H : RC (CW n) 36 [.ob 10, .d x, .d (.int l), .d (.boo al)] (wst b out w0 last pf) (.d .non) (wst b out' w' last' pf')) : Runs CW NW n b (out, w0 ++ [rowT x l al], last, pf) (out', w', last', pf') :=
  fun t m Q q k3 k4 k5 k6 => lw_term n t m k3 k4 k5 k6 b out w0 last pf h x l al _ H (q _ _ _ _)
theorem runs_other {n : Nat} {b : Bs} {out w0 out' w' : List D} {last last' : List Nat} {pf pf' : Bool} (h : w0.length + 1 ≤ big) {kd : List Nat} {it : D}
    (H : (kd = sInf ∧ RC (CW n) 45 [.ob 10, .d it] (wst b out w0 last pf) (.d .non) (wst b out' w' last' pf')) ∨ (kd = sPost ∧ RC (CW n) 46 [.ob 10, .d it] (wst b out w0 last pf) (.d .non) (wst b out' w' last' pf')) ∨ (kd = [114, 97, 119] ∧ RC (CW n) 32 [.ob 10, .d it] (wst b out w0 last pf) (.d .non) (wst b out' w' last' pf'))) :
    Runs CW NW n b (out, w0 ++ [.tup [.str kd, it, .int 0, .boo false]], last, pf) (out', w', last', pf') :=
  fun t m Q q k3 k4 k5 k6 => lw_other n t m k3 k4 k5 k6 b out w0 last pf h kd it _ H (q _ _ _ _)
end Mn
end
section
namespace Mn
inductive T where
  | a (i : Nat)
  | f1 (f : Nat) (x : T)
  | f2 (f : Nat) (x y : T)
  | cu (x : T)
  | dot (x y : T)
noncomputable def T.enc : T → D
  | .a i => tA i
  | .f1 f x => tS f [x.enc]
  | .f2 f x y => tS f [x.enc, y.enc]
  | .cu x => tS 9 [x.enc]
  | .dot x y => tS 0 [x.enc, y.enc]
structure Cx where
  tx : Nat → List Nat
  fn : Nat → Nat
  pre : Nat → Option (Int × Kd)
  inf : Nat → Option (Int × Kd)
  post : Nat → Option (Int × Kd)
abbrev S3 := List D × List Nat × Bool
noncomputable def S3.st (b : Bs) (w : List D) (s : S3) : List AO := wst b s.1 w s.2.1 s.2.2
noncomputable def S3.raw (t : List Nat) (s : S3) : S3 := (s.1 ++ [.str t], [t.getLastD 0], false)
noncomputable def S3.tk (t : List Nat) (s : S3) : S3 := (s.1 ++ sp s.2.1 s.2.2 (t.headD 0) ++ [.str t], [t.getLastD 0], false)
noncomputable def S3.oPre (t : List Nat) (s : S3) : S3 := if tightN t = true then ((s.tk t).1, (s.tk t).2.1, true) else (s.tk t).raw [32]
noncomputable def S3.oInf (t : List Nat) (s : S3) : S3 := if tightN t = true then s.tk t else ((s.raw [32]).raw t).raw [32]
noncomputable def S3.oPost (t : List Nat) (s : S3) : S3 := if tightN t = true then s.tk t else (s.raw [32]).raw t
noncomputable def S3.po (c : Bool) (s : S3) : S3 := if c = true then s.tk [40] else s
noncomputable def S3.pc (c : Bool) (s : S3) : S3 := if c = true then s.raw [41] else s
section
variable (cx : Cx)
noncomputable def T.shape : T → Option (Nat × Int × Kd)
  | .f1 f _ => (match cx.pre (cx.fn f) with
    | some p => some (0, p)
    | none => (match cx.post (cx.fn f) with | some p => some (2, p) | none => none))
  | .f2 f _ _ => (match cx.inf (cx.fn f) with | some p => some (1, p) | none => none)
  | _ => none
noncomputable def T.ll (t : T) (h m : Int) : Int := match t.shape cx with
  | some (_, h', k) => if h' = h ∧ k.rb h' = h then h - 1 else m
  | none => m
noncomputable def rn : T → Bool → Int → S3 → S3
  | .a i, false, _, s => s.tk (cx.tx i)
  | .a i, true, _, s => if i = 0 then s.raw [93] else ((s.raw [124]).tk (cx.tx i)).raw [93]
  | .f1 f x, tl, m, s =>
    let s := if tl = true then s.raw [124] else s
    let s := (match (T.f1 f x).shape cx with
      | some (0, h, k) => (rn x false (k.rb h) (((s.po (decide (m < h))).oPre (cx.tx (cx.fn f))))).pc (decide (m < h))
      | some (_, h, k) => ((rn x false (x.ll cx h (k.lb h)) (s.po (decide (m < h)))).oPost (cx.tx (cx.fn f))).pc (decide (m < h))
      | none => (rn x false 999 ((s.tk (cx.tx (cx.fn f))).raw [40])).raw [41])
    if tl = true then s.raw [93] else s
  | .f2 f x y, tl, m, s =>
    let s := if tl = true then s.raw [124] else s
    let s := (match (T.f2 f x y).shape cx with
      | some (_, h, k) => (rn y false (k.rb h) ((rn x false (x.ll cx h (k.lb h)) (s.po (decide (m < h)))).oInf (cx.tx (cx.fn f)))).pc (decide (m < h))
      | none => (rn y false 999 ((rn x false 999 ((s.tk (cx.tx (cx.fn f))).raw [40])).raw [44])).raw [41])
    if tl = true then s.raw [93] else s
  | .cu x, tl, _, s =>
    let s := if tl = true then s.raw [124] else s
    let s := (rn x false 1201 (s.tk [123])).raw [125]
    if tl = true then s.raw [93] else s
  | .dot x y, tl, _, s => rn y true 999 (rn x false 999 (if tl = true then s.raw [44] else s.tk [91]))
end
noncomputable def T.sz : T → Nat
  | .a _ => 1
  | .f1 _ x => x.sz + 1
  | .f2 _ x y => x.sz + y.sz + 1
  | .cu x => x.sz + 1
  | .dot x y => x.sz + y.sz + 1
noncomputable def Up (k : Nat) (s s' : S3) : Prop := s'.1.length ≤ s.1.length + k ∧ ∃ l, s'.2.1 = [l]
theorem Up.trans {k l : Nat} {s s' s'' : S3} (x : Up k s s') (y : Up l s' s'') : Up (k + l) s s'' := ⟨by have := x.1; have := y.1; omega, y.2⟩
theorem up_raw (t : List Nat) (s : S3) : Up 1 s (s.raw t) := ⟨by unfold S3.raw; rw [ap1]; exact Nat.le_refl _, _, rfl⟩
theorem up_tk (t : List Nat) (s : S3) : Up 2 s (s.tk t) := ⟨by unfold S3.tk; rw [ap1, List.length_append]; have := sp_len s.2.1 s.2.2 (t.headD 0); omega, _, rfl⟩
theorem Up.mono {k l : Nat} {s s' : S3} (x : Up k s s') (h : k ≤ l) : Up l s s' := ⟨Nat.le_trans x.1 (Nat.add_le_add_left h _), x.2⟩
theorem up_pre (t : List Nat) (s : S3) : Up 3 s (s.oPre t) := by
  unfold S3.oPre
  by_cases h : tightN t = true
  · rw [if_pos h]; exact ⟨Nat.le_trans (up_tk t s).1 (Nat.le_succ _), (up_tk t s).2⟩
  · rw [if_neg h]; exact (up_tk t s).trans (up_raw _ _)
theorem up_inf (t : List Nat) (s : S3) : Up 3 s (s.oInf t) := by
  unfold S3.oInf
  by_cases h : tightN t = true
  · rw [if_pos h]; exact (up_tk t s).mono (Nat.le_succ _)
  · rw [if_neg h]; exact ((up_raw _ s).trans (up_raw _ _)).trans (up_raw _ _)
theorem up_post (t : List Nat) (s : S3) : Up 3 s (s.oPost t) := by
  unfold S3.oPost
  by_cases h : tightN t = true
  · rw [if_pos h]; exact (up_tk t s).mono (Nat.le_succ _)
  · rw [if_neg h]; exact ((up_raw _ s).trans (up_raw _ _)).mono (Nat.le_succ _)
end Mn
end
section
namespace Mn
noncomputable def tb (p : Int × Kd) : D := .tup [.int p.1, .str p.2.s]
structure Ok (cx : Cx) (b : Bs) (gA gF : Nat → Prop) : Prop where
  tx : ∀ i, gA i → b.texts[i]? = some (.str (cx.tx i)) ∧ Wt (cx.tx i) ((cx.tx i).headD 0) ((cx.tx i).getLastD 0) ∧ plainN (cx.tx i) = true ∧ i < 4294967296
  fs : ∀ f, gF f → (∃ ar, b.fs[f]? = some (.tup [.int (cx.fn f : Nat), ar])) ∧ f < 4294967296 ∧ f ≠ 0 ∧ f ≠ 9 ∧ gA (cx.fn f)
  pre : ∀ i : Nat, DG b.pre (.int i) ((cx.pre i).map tb)
  inf : ∀ i : Nat, DG b.inf (.int i) ((cx.inf i).map tb)
  post : ∀ i : Nat, DG b.post (.int i) ((cx.post i).map tb)
noncomputable def T.wf (cx : Cx) (gA gF : Nat → Prop) : T → Prop
  | .a i => gA i ∧ cx.pre i = none ∧ cx.inf i = none ∧ cx.post i = none
  | .f1 f x => gF f ∧ x.wf cx gA gF
  | .f2 f x y => gF f ∧ (cx.fn f ≠ 7 ∧ cx.fn f ≠ 8) ∧ x.wf cx gA gF ∧ y.wf cx gA gF
  | .cu x => x.wf cx gA gF
  | .dot x y => x.wf cx gA gF ∧ y.wf cx gA gF
noncomputable def T.its : T → List D
  | .dot x y => x.enc :: y.its
  | _ => []
noncomputable def T.end_ : T → T
  | .dot _ y => y.end_
  | t => t
noncomputable def isNil : T → Bool
  | .a 0 => true
  | _ => false
noncomputable def rowsT : T → List D
  | .dot x y => rowR [44] :: rowT x.enc 999 true :: rowsT y
  | t => if isNil t = true then [rowR [93]] else [rowR [124], rowT t.enc 999 true, rowR [93]]
theorem enc_its (t : T) : encL t.end_.enc t.its = t.enc := by
  induction t with
  | dot x y _ ih => show tS 0 [x.enc, encL y.end_.enc y.its] = _; rw [ih]; rfl
  | _ => rfl
theorem its_sz (t : T) : t.its.length + 1 ≤ t.sz := by
  induction t with
  | dot x y _ ih => show y.its.length + 1 + 1 ≤ x.sz + y.sz + 1; omega
  | a => exact Nat.le_refl _
  | _ => exact Nat.le_add_left _ _
theorem rows_its (t : T) : ∀ acc : List D, acc.isEmpty = false → t.its.foldl (addRow none) acc ++ (if isNil t.end_ = true then [] else [rowR [124], rowT t.end_.enc 999 true]) ++ [rowR [93]] = acc ++ rowsT t := by
  induction t with
  | dot x y _ ih =>
    intro acc h
    show (y.its.foldl (addRow none) (addRow none acc x.enc)) ++ (if isNil y.end_ = true then [] else [rowR [124], rowT y.end_.enc 999 true]) ++ [rowR [93]] = acc ++ (rowR [44] :: rowT x.enc 999 true :: rowsT y)
    rw [ih, add_cons none x.enc (fun c => Bool.false_ne_true (h.symm.trans c)), List.append_assoc, List.append_assoc]
    · rfl
    · rw [add_cons none x.enc (fun c => Bool.false_ne_true (h.symm.trans c))]
      cases acc <;> rfl
  | a i =>
    intro acc _
    show acc ++ (if isNil (.a i) = true then _ else _) ++ _ = acc ++ if isNil (.a i) = true then _ else _
    by_cases h : isNil (.a i) = true
    · rw [if_pos h, if_pos h, List.append_nil]
    · rw [if_neg h, if_neg h, List.append_assoc]; rfl
  | _ => intro acc _; rw [List.append_assoc]; rfl
theorem rows_dot (x y : T) : rowsL y.end_.enc (isNil y.end_) (x.enc :: y.its) = rowT x.enc 999 true :: rowsT y := by
  unfold rowsL
  rw [List.foldl_cons, rows_its y _ (by rfl)]; rfl
theorem end_form (cx : Cx) (b : Bs) (gA gF : Nat → Prop) (ok : Ok cx b gA gF) (t : T) (h : t.wf cx gA gF) : ∃ tg k l, t.end_.enc = .tup (.str tg :: .int k :: l) ∧ ((tg == [115]) && (k == 0)) = false ∧ ((tg == [97]) && ((k == 0) && l.isEmpty)) = isNil t.end_ := by
  induction t with
  | dot x y _ ih => exact ih h.2
  | a i =>
    refine ⟨[97], i, [], rfl, rfl, ?_⟩
    cases i with
    | zero => rfl
    | succ i => show (((i + 1 : Nat) : Int) == 0 && true) = false; rw [Bool.and_true, beq_eq_false_iff_ne]; omega
  | f1 f x =>
    refine ⟨[115], f, [.tup [x.enc]], rfl, ?_, rfl⟩
    have := (ok.fs f h.1).2.2.1
    show ((f : Int) == 0) = false
    rw [beq_eq_false_iff_ne]; omega
  | f2 f x y =>
    refine ⟨[115], f, [.tup [x.enc, y.enc]], rfl, ?_, rfl⟩
    have := (ok.fs f h.1).2.2.1
    show ((f : Int) == 0) = false
    rw [beq_eq_false_iff_ne]; omega
  | cu x => exact ⟨[115], 9, [.tup [x.enc]], rfl, rfl, rfl⟩
section
variable (cx : Cx)
theorem up_po (c : Bool) (s : S3) (h : ∃ l, s.2.1 = [l]) : Up 2 s (s.po c) := by
  cases c
  · exact ⟨Nat.le_add_right _ _, h⟩
  · exact up_tk _ _
theorem up_pc (c : Bool) (s : S3) (h : ∃ l, s.2.1 = [l]) : Up 1 s (s.pc c) := by
  cases c
  · exact ⟨Nat.le_add_right _ _, h⟩
  · exact up_raw _ _
end
end Mn
end
section
namespace Mn
noncomputable def kdS : Nat → List Nat
  | 0 => sPre
  | 1 => sInf
  | _ => sPost
noncomputable def shV : Option (Nat × Int × Kd) → D
  | none => .non
  | some (j, h, k) => .tup [.str (kdS j), .int h, .str k.s]
theorem enc_form (t : T) : ∃ tg l, t.enc = .tup (.str tg :: l) ∧ (tg == [105]) = false := by
  cases t with
  | a => exact ⟨_, _, rfl, rfl⟩
  | f1 => exact ⟨_, _, rfl, rfl⟩
  | f2 => exact ⟨_, _, rfl, rfl⟩
  | cu => exact ⟨_, _, rfl, rfl⟩
  | dot => exact ⟨_, _, rfl, rfl⟩
section
variable {s : S3}
theorem len_raw (t : List Nat) : (s.raw t).1.length = s.1.length + 1 := ap1 _ _
theorem len_tk (t : List Nat) : (s.tk t).1.length ≤ s.1.length + 2 := (up_tk t s).1
theorem len_po (c : Bool) : (s.po c).1.length ≤ s.1.length + 2 := by
  cases c
  · exact Nat.le_add_right _ _
  · exact (up_tk _ _).1
theorem len_pc (c : Bool) : (s.pc c).1.length ≤ s.1.length + 1 := by
  cases c
  · exact Nat.le_add_right _ _
  · exact (up_raw _ _).1
end
theorem Up1 {k : Nat} {s s' : S3} (x : Up k s s') : s'.1.length ≤ s.1.length + k := x.1
theorem rn_len (cx : Cx) (t : T) : ∀ (tl : Bool) (m : Int) (s : S3), (rn cx t tl m s).1.length ≤ s.1.length + 8 * t.sz := by
  have wrap : ∀ (tl : Bool) (s : S3) (g : S3 → S3) (k : Nat), (∀ s, (g s).1.length ≤ s.1.length + k) → (if tl = true then (g (if tl = true then s.raw [124] else s)).raw [93] else g (if tl = true then s.raw [124] else s)).1.length ≤ s.1.length + (k + 2) := by
    intro tl s g k hg
    cases tl
    · exact Nat.le_trans (hg s) (by omega)
    · show ((g (s.raw [124])).raw [93]).1.length ≤ _
      rw [len_raw]
      have h1 := hg (s.raw [124])
      rw [len_raw] at h1
      omega
  induction t with
  | a i =>
    intro tl m s
    cases tl with
    | false => exact Nat.le_trans (len_tk _) (by show _ ≤ _ + 8 * 1; omega)
    | true =>
      show (if i = 0 then s.raw [93] else ((s.raw [124]).tk (cx.tx i)).raw [93]).1.length ≤ _ + 8 * 1
      by_cases h : i = 0
      · rw [if_pos h, len_raw]; omega
      · rw [if_neg h, len_raw]
        have h1 := len_tk (s := s.raw [124]) (cx.tx i)
        rw [len_raw] at h1
        omega
  | f1 f x ih =>
    intro tl m s
    refine Nat.le_trans (wrap tl s (fun s => match (T.f1 f x).shape cx with
      | some (0, h, k) => (rn cx x false (k.rb h) (((s.po (decide (m < h))).oPre (cx.tx (cx.fn f))))).pc (decide (m < h))
      | some (_, h, k) => ((rn cx x false (x.ll cx h (k.lb h)) (s.po (decide (m < h)))).oPost (cx.tx (cx.fn f))).pc (decide (m < h))
      | none => (rn cx x false 999 ((s.tk (cx.tx (cx.fn f))).raw [40])).raw [41]) (6 + 8 * x.sz) ?_) (by show _ ≤ _ + 8 * (x.sz + 1); omega)
    intro s
    split
    · rename_i h k _
      have h1 := len_pc (s := rn cx x false (k.rb h) (((s.po (decide (m < h))).oPre (cx.tx (cx.fn f))))) (decide (m < h))
      have h2 := ih false (k.rb h) (((s.po (decide (m < h))).oPre (cx.tx (cx.fn f))))
      have h3 := (up_pre (cx.tx (cx.fn f)) (s.po (decide (m < h)))).1
      have h4 := len_po (s := s) (decide (m < h))
      omega
    · rename_i h k _ _
      have h1 := len_pc (s := (rn cx x false (x.ll cx h (k.lb h)) (s.po (decide (m < h)))).oPost (cx.tx (cx.fn f))) (decide (m < h))
      have h2 := ih false (x.ll cx h (k.lb h)) (s.po (decide (m < h)))
      have h3 := (up_post (cx.tx (cx.fn f)) (rn cx x false (x.ll cx h (k.lb h)) (s.po (decide (m < h))))).1
      have h4 := len_po (s := s) (decide (m < h))
      omega
    · rw [len_raw]
      have h2 := ih false 999 ((s.tk (cx.tx (cx.fn f))).raw [40])
      rw [len_raw] at h2
      have h3 := len_tk (s := s) (cx.tx (cx.fn f))
      omega
  | f2 f x y ihx ihy =>
    intro tl m s
    refine Nat.le_trans (wrap tl s (fun s => match (T.f2 f x y).shape cx with
      | some (_, h, k) => (rn cx y false (k.rb h) ((rn cx x false (x.ll cx h (k.lb h)) (s.po (decide (m < h)))).oInf (cx.tx (cx.fn f)))).pc (decide (m < h))
      | none => (rn cx y false 999 ((rn cx x false 999 ((s.tk (cx.tx (cx.fn f))).raw [40])).raw [44])).raw [41]) (6 + 8 * x.sz + 8 * y.sz) ?_) (by show _ ≤ _ + 8 * (x.sz + y.sz + 1); omega)
    intro s
    split
    · rename_i h k _
      have h1 := len_pc (s := rn cx y false (k.rb h) ((rn cx x false (x.ll cx h (k.lb h)) (s.po (decide (m < h)))).oInf (cx.tx (cx.fn f)))) (decide (m < h))
      have h2 := ihy false (k.rb h) ((rn cx x false (x.ll cx h (k.lb h)) (s.po (decide (m < h)))).oInf (cx.tx (cx.fn f)))
      have h3 := (up_inf (cx.tx (cx.fn f)) (rn cx x false (x.ll cx h (k.lb h)) (s.po (decide (m < h))))).1
      have h5 := ihx false (x.ll cx h (k.lb h)) (s.po (decide (m < h)))
      have h4 := len_po (s := s) (decide (m < h))
      omega
    · rw [len_raw]
      have h2 := ihy false 999 ((rn cx x false 999 ((s.tk (cx.tx (cx.fn f))).raw [40])).raw [44])
      rw [len_raw] at h2
      have h5 := ihx false 999 ((s.tk (cx.tx (cx.fn f))).raw [40])
      rw [len_raw] at h5
      have h3 := len_tk (s := s) (cx.tx (cx.fn f))
      omega
  | cu x ih =>
    intro tl m s
    refine Nat.le_trans (wrap tl s (fun s => (rn cx x false 1201 (s.tk [123])).raw [125]) (3 + 8 * x.sz) ?_) (by show _ ≤ _ + 8 * (x.sz + 1); omega)
    intro s
    rw [len_raw]
    have h2 := ih false 1201 (s.tk [123])
    have h3 := len_tk (s := s) [123]
    omega
  | dot x y ihx ihy =>
    intro tl m s
    show (rn cx y true 999 (rn cx x false 999 (if tl = true then s.raw [44] else s.tk [91]))).1.length ≤ _ + 8 * (x.sz + y.sz + 1)
    have h1 := ihy true 999 (rn cx x false 999 (if tl = true then s.raw [44] else s.tk [91]))
    have h2 := ihx false 999 (if tl = true then s.raw [44] else s.tk [91])
    have h3 : (if tl = true then s.raw [44] else s.tk [91]).1.length ≤ s.1.length + 2 := by
      cases tl
      · exact len_tk _
      · exact Nat.le_trans (Nat.le_of_eq (len_raw _)) (by omega)
    omega
variable {CW NW : Nat → CallT} (K : Wk CW NW) {cx : Cx} {b : Bs} {gA gF : Nat → Prop} (ok : Ok cx b gA gF)
include K
theorem c_shape2n (w : Wx) (n : Nat) (x y : D) (f : Nat) (h0 : f ≠ 0) (h9 : f ≠ 9) (hf : f < 4294967296) (a ar : D) (hfs : b.fs[f]? = some (.tup [a, ar])) (hi : DG b.inf a none) :
    RC (CW (n + 3)) 41 [.ob 10, .d (tS f [x, y])] (xst b w) (.d .non) (xst b w) := by
  intro Q q
  refine shape_op K b w n _ f h0 h9 hf a ar hfs ?_
  refine exB (.lenT bg2) (exC CD.eqI ?_)
  refine c_infix K (n + 1) b _ a _ hi _ ?_
  refine exC (.d (.isN _)) ?_
  refine exB (.lenT bg2) (exC CD.eqI ?_)
  exact q
include ok
theorem shape_x (n : Nat) (t : T) (h : t.wf cx gA gF) (w : Wx) : RC (CW (n + 3)) 41 [.ob 10, .d t.enc] (xst b w) (.d (shV (t.shape cx))) (xst b w) := by
  cases t with
  | a i => exact c_shape_atom K b w (n + 1) _ [97] rfl
  | cu x => exact c_shape_f K b w (n + 1) _ 9 (.inr rfl)
  | dot x y => exact c_shape_f K b w (n + 1) _ 0 (.inl rfl)
  | f1 f x =>
    obtain ⟨⟨ar, e1⟩, e2, e3, e4, _⟩ := ok.fs f h.1
    have h1 := ok.pre (cx.fn f)
    have h2 := ok.post (cx.fn f)
    obtain ⟨tg, l, e, ht⟩ := enc_form x
    show RC _ _ [_, .d (tS f [x.enc])] _ (.d (shV (match cx.pre (cx.fn f) with | some p => some (0, p) | none => (match cx.post (cx.fn f) with | some p => some (2, p) | none => none)))) _
    cases ep : cx.pre (cx.fn f) with
    | some p =>
      rw [ep] at h1
      rw [e]
      exact c_shape1p K b w n tg l f ht e3 e4 e2 _ ar e1 _ _ h1
    | none =>
      rw [ep] at h1
      cases eq : cx.post (cx.fn f) with
      | some p => rw [eq] at h2; exact c_shape1q K b w n _ f e3 e4 e2 _ ar e1 h1 (some (.int p.1, .str p.2.s)) h2
      | none => rw [eq] at h2; exact c_shape1q K b w n _ f e3 e4 e2 _ ar e1 h1 none h2
  | f2 f x y =>
    obtain ⟨⟨ar, e1⟩, e2, e3, e4, _⟩ := ok.fs f h.1
    have h1 := ok.inf (cx.fn f)
    show RC _ _ [_, .d (tS f [x.enc, y.enc])] _ (.d (shV (match cx.inf (cx.fn f) with | some p => some (1, p) | none => none))) _
    cases ep : cx.inf (cx.fn f) with
    | some p => rw [ep] at h1; exact c_shape2 K b w n _ _ f e3 e4 e2 _ ar e1 _ _ h1
    | none => rw [ep] at h1; exact c_shape2n K w n _ _ f e3 e4 e2 _ ar e1 h1
theorem left_x (n : Nat) (t : T) (h : t.wf cx gA gF) (g m : Int) (w : Wx) : RC (CW (n + 4)) 43 [.ob 10, .d t.enc, .d (.int g), .d (.int m)] (xst b w) (.d (.int (t.ll cx g m))) (xst b w) := by
  have s := shape_x K ok n t h w
  unfold T.ll
  cases e : t.shape cx with
  | none => rw [e] at s; exact c_left_none K b w n _ _ _ s
  | some p => rw [e] at s; exact c_left_some K b w n _ _ _ _ _ _ s
theorem shape_ok (n : Nat) (t : T) (h : t.wf cx gA gF) (out work : List D) (last : List Nat) (pf : Bool) : RC (CW (n + 3)) 41 [.ob 10, .d t.enc] (wst b out work last pf) (.d (shV (t.shape cx))) (wst b out work last pf) := shape_x K ok n t h (wxr out work last pf)
theorem left_ok (n : Nat) (t : T) (h : t.wf cx gA gF) (g m : Int) (out work : List D) (last : List Nat) (pf : Bool) : RC (CW (n + 4)) 43 [.ob 10, .d t.enc, .d (.int g), .d (.int m)] (wst b out work last pf) (.d (.int (t.ll cx g m))) (wst b out work last pf) := left_x K ok n t h g m (wxr out work last pf)
end Mn
end
section
namespace Mn
noncomputable def S1 (s : S3) : Prop := s.2.1 = [] ∨ ∃ l, s.2.1 = [l]
theorem last_pc (c : Bool) (s : S3) (h : ∃ l, s.2.1 = [l]) : ∃ l, (s.pc c).2.1 = [l] := by
  cases c
  · exact h
  · exact ⟨_, rfl⟩
theorem rn_last (cx : Cx) (t : T) : ∀ (tl : Bool) (m : Int) (s : S3), ∃ l, (rn cx t tl m s).2.1 = [l] := by
  have wrap : ∀ (tl : Bool) (s : S3), (tl = false → ∃ l, s.2.1 = [l]) → ∃ l, (if tl = true then s.raw [93] else s).2.1 = [l] := by
    intro tl s h
    cases tl
    · exact h rfl
    · exact ⟨_, rfl⟩
  induction t with
  | a i =>
    intro tl m s
    cases tl with
    | false => exact ⟨_, rfl⟩
    | true =>
      show ∃ l, (if i = 0 then s.raw [93] else ((s.raw [124]).tk (cx.tx i)).raw [93]).2.1 = [l]
      by_cases h : i = 0
      · rw [if_pos h]; exact ⟨_, rfl⟩
      · rw [if_neg h]; exact ⟨_, rfl⟩
  | f1 f x ih =>
    intro tl m s
    refine wrap tl _ fun _ => ?_
    split
    · exact last_pc _ _ (ih _ _ _)
    · exact last_pc _ _ (up_post _ _).2
    · exact ⟨_, rfl⟩
  | f2 f x y ihx ihy =>
    intro tl m s
    refine wrap tl _ fun _ => ?_
    split
    · exact last_pc _ _ (ihy _ _ _)
    · exact ⟨_, rfl⟩
  | cu x ih => intro tl m s; exact wrap tl _ fun _ => ⟨_, rfl⟩
  | dot x y ihx ihy => intro tl m s; exact ihy true 999 _
theorem par_rev (c : Bool) (L : List D) : (L ++ parE c).reverse = parE c ++ L.reverse := by
  rw [List.reverse_append]
  cases c <;> rfl
theorem pre_eq (t : List Nat) (b : Bs) (w : List D) (s : S3) : preS (tightN t) t (t.headD 0) (t.getLastD 0) b s.1 w s.2.1 s.2.2 = (s.oPre t).st b w := by
  unfold preS S3.oPre
  by_cases h : tightN t = true
  · rw [if_pos h, if_pos h]; rfl
  · rw [if_neg h, if_neg h]; rfl
theorem inf_eq (t : List Nat) (b : Bs) (w : List D) (s : S3) : infS (tightN t) t (t.headD 0) (t.getLastD 0) b s.1 w s.2.1 s.2.2 = (s.oInf t).st b w := by
  unfold infS S3.oInf
  by_cases h : tightN t = true
  · rw [if_pos h, if_pos h]; rfl
  · rw [if_neg h, if_neg h]; rfl
theorem post_eq (t : List Nat) (b : Bs) (w : List D) (s : S3) : postS (tightN t) t (t.headD 0) (t.getLastD 0) b s.1 w s.2.1 s.2.2 = (s.oPost t).st b w := by
  unfold postS S3.oPost
  by_cases h : tightN t = true
  · rw [if_pos h, if_pos h]; rfl
  · rw [if_neg h, if_neg h]; rfl
theorem par_eq (c : Bool) (b : Bs) (w : List D) (s : S3) : parS c b s.1 w s.2.1 s.2.2 = (s.po c).st b w := by
  cases c <;> rfl
noncomputable def RunS (CW NW : Nat → CallT) (n : Nat) (b : Bs) (s : S3) (w : List D) (s' : S3) (w' : List D) : Prop := Runs CW NW n b (s.1, w, s.2.1, s.2.2) (s'.1, w', s'.2.1, s'.2.2)
variable {CW NW : Nat → CallT} (K : Wk CW NW) {cx : Cx} {b : Bs} {gA gF : Nat → Prop} (ok : Ok cx b gA gF)
include K
theorem run_raw (n : Nat) {t : List Nat} (w : Wt t (t.headD 0) (t.getLastD 0)) (s : S3) (wk : List D) (h1 : s.1.length ≤ big) (h2 : wk.length + 1 ≤ big) : RunS CW NW (n + 1) b s (wk ++ [rowR t]) (s.raw t) wk :=
  runs_other h2 (.inr (.inr ⟨rfl, raw_ K n b s.1 wk s.2.1 s.2.2 w h1⟩))
theorem run_pc (n : Nat) (c : Bool) (s : S3) (wk : List D) (h1 : s.1.length ≤ big) (h2 : wk.length + 1 ≤ big) : RunS CW NW (n + 1) b s (wk ++ parE c) (s.pc c) wk := by
  cases c
  · show RunS CW NW (n + 1) b s (wk ++ []) s wk
    rw [List.append_nil]; exact Runs.refl _ _ _
  · exact run_raw K n (Wt.one 41) s wk h1 h2
include ok
theorem run_inf (n : Nat) (i : Nat) (h : gA i) (h7 : i ≠ 7) (h8 : i ≠ 8) (s : S3) (hs : S1 s) (wk : List D) (h1 : s.1.length + 8 ≤ big) (h2 : wk.length + 1 ≤ big) : RunS CW NW (n + 6) b s (wk ++ [.tup [.str sInf, .int i, .int 0, .boo false]]) (s.oInf (cx.tx i)) wk := by
  obtain ⟨e1, e2, e3, e4⟩ := ok.tx i h
  have e := c_infop K n b s.1 wk s.2.1 s.2.2 e2 i e1 e4 e3 hs h1 h7 h8
  rw [inf_eq] at e
  exact runs_other h2 (.inl ⟨rfl, e⟩)
theorem run_post (n : Nat) (i : Nat) (h : gA i) (s : S3) (hs : S1 s) (wk : List D) (h1 : s.1.length + 8 ≤ big) (h2 : wk.length + 1 ≤ big) : RunS CW NW (n + 6) b s (wk ++ [.tup [.str sPost, .int i, .int 0, .boo false]]) (s.oPost (cx.tx i)) wk := by
  obtain ⟨e1, e2, e3, e4⟩ := ok.tx i h
  have e := c_postop K n b s.1 wk s.2.1 s.2.2 e2 i e1 e4 e3 hs h1
  rw [post_eq] at e
  exact runs_other h2 (.inr (.inl ⟨rfl, e⟩))
end Mn
end
section
namespace Mn
variable {CW NW : Nat → CallT} (K : Wk CW NW) {cx : Cx} {b : Bs} {gA gF : Nat → Prop} (ok : Ok cx b gA gF)
include K ok
section
variable (n : Nat) (m : Int) (al : Bool) (s : S3) (hs : S1 s) (wk : List D) (ho : s.1.length + 10 ≤ big) (hw : wk.length + 8 ≤ big)
include hs ho hw
theorem wr_a (i : Nat) (h : (T.a i).wf cx gA gF) : RC (CW (n + 8)) 36 [.ob 10, .d (tA i), .d (.int m), .d (.boo al)] (s.st b wk) (.d .non) ((s.tk (cx.tx i)).st b wk) := by
  intro Q q
  obtain ⟨e1, e2, e3, e4⟩ := ok.tx i h.1
  have h1 := ok.pre i
  have h2 := ok.inf i
  have h3 := ok.post i
  rw [h.2.1] at h1
  rw [h.2.2.1] at h2
  rw [h.2.2.2] at h3
  refine w_atom K (n + 7) b s.1 wk s.2.1 s.2.2 al m i ?_
  exact c_watom K (n + 1) b s.1 wk s.2.1 s.2.2 e2 i e1 e4 e3 hs (by omega) al h1 h2 h3 _ q
theorem wr_fn (f : Nat) (l : List D) (hf : gF f) (hl : l.length ≤ 2) (hS : RC (CW (n + 7)) 41 [.ob 10, .d (tS f l)] (s.st b wk) (.d .non) (s.st b wk)) :
    RC (CW (n + 8)) 36 [.ob 10, .d (tS f l), .d (.int m), .d (.boo al)] (s.st b wk) (.d .non) ((s.tk (cx.tx (cx.fn f))).st b (wk ++ (rowsF l).reverse)) := by
  intro Q q
  obtain ⟨⟨ar, k1⟩, k2, k3, k4, k5⟩ := ok.fs f hf
  obtain ⟨e1, e2, e3, e4⟩ := ok.tx _ k5
  refine w_fn K (n + 6) b s.1 wk s.2.1 s.2.2 al m f l k3 k4 hS ?_
  exact c_wfun K (n + 1) b s.1 wk s.2.1 s.2.2 hs (by omega) e2 _ e1 e4 e3 f k2 ar k1 l (by omega) _ q
theorem wr_pre (f : Nat) (x : T) (hf : gF f) (h : Int) (k : Kd) (hS : RC (CW (n + 7)) 41 [.ob 10, .d (tS f [x.enc])] (s.st b wk) (.d (.tup [.str sPre, .int h, .str k.s])) (s.st b wk)) :
    RC (CW (n + 8)) 36 [.ob 10, .d (tS f [x.enc]), .d (.int m), .d (.boo al)] (s.st b wk) (.d .non) (((s.po (decide (m < h))).oPre (cx.tx (cx.fn f))).st b (wk ++ (parE (decide (m < h)) ++ [rowT x.enc (k.rb h) false]))) := by
  intro Q q
  obtain ⟨⟨ar, k1⟩, k2, k3, k4, k5⟩ := ok.fs f hf
  obtain ⟨e1, e2, e3, e4⟩ := ok.tx _ k5
  refine w_op K (n + 6) b s.1 wk s.2.1 s.2.2 al m f _ k3 k4 _ hS ?_
  refine c_wop_pre K (n + 1) b s.1 wk s.2.1 s.2.2 hs (by omega) (by omega) f (cx.fn f) k2 ar k1 h m k x.enc (s.po (decide (m < h))).1 (s.po (decide (m < h))).2.1 (s.po (decide (m < h))).2.2 (par_eq _ b wk s) fun Q' hQ => ?_
  have h2 := len_po (s := s) (decide (m < h))
  have hs' : S1 (s.po (decide (m < h))) := by
    cases decide (m < h)
    · exact hs
    · exact .inr ⟨_, rfl⟩
  refine c_preop K n b _ wk _ _ e2 _ e1 e4 e3 hs' ?_ Q' ?_
  · omega
  · rw [pre_eq]
    rw [par_rev] at hQ
    exact hQ _ _ _ _ q
theorem wr_post (f : Nat) (x : T) (hx : x.wf cx gA gF) (hf : gF f) (h : Int) (k : Kd) (hS : RC (CW (n + 7)) 41 [.ob 10, .d (tS f [x.enc])] (s.st b wk) (.d (.tup [.str sPost, .int h, .str k.s])) (s.st b wk)) :
    RC (CW (n + 8)) 36 [.ob 10, .d (tS f [x.enc]), .d (.int m), .d (.boo al)] (s.st b wk) (.d .non) ((s.po (decide (m < h))).st b (wk ++ (parE (decide (m < h)) ++ [.tup [.str sPost, .int (cx.fn f : Nat), .int 0, .boo false], rowT x.enc (x.ll cx h (k.lb h)) false]))) := by
  intro Q q
  obtain ⟨⟨ar, k1⟩, k2, k3, k4, k5⟩ := ok.fs f hf
  refine w_op K (n + 6) b s.1 wk s.2.1 s.2.2 al m f _ k3 k4 _ hS ?_
  have e := c_wop_post K (n + 1) b s.1 wk s.2.1 s.2.2 hs (by omega) (by omega) f (cx.fn f) k2 ar k1 h m _ k x.enc (fun out last pf => left_ok K ok (n + 2) x hx h (k.lb h) out wk last pf)
  rw [par_rev] at e
  exact e _ (par_eq (decide (m < h)) b _ s ▸ q)
theorem wr_inf (f : Nat) (x y : T) (hx : x.wf cx gA gF) (hf : gF f) (h : Int) (k : Kd) (hS : RC (CW (n + 7)) 41 [.ob 10, .d (tS f [x.enc, y.enc])] (s.st b wk) (.d (.tup [.str sInf, .int h, .str k.s])) (s.st b wk)) :
    RC (CW (n + 8)) 36 [.ob 10, .d (tS f [x.enc, y.enc]), .d (.int m), .d (.boo al)] (s.st b wk) (.d .non) ((s.po (decide (m < h))).st b (wk ++ (parE (decide (m < h)) ++ [rowT y.enc (k.rb h) false, .tup [.str sInf, .int (cx.fn f : Nat), .int 0, .boo false], rowT x.enc (x.ll cx h (k.lb h)) false]))) := by
  intro Q q
  obtain ⟨⟨ar, k1⟩, k2, k3, k4, k5⟩ := ok.fs f hf
  refine w_op K (n + 6) b s.1 wk s.2.1 s.2.2 al m f _ k3 k4 _ hS ?_
  have e := c_wop_inf K (n + 1) b s.1 wk s.2.1 s.2.2 hs (by omega) (by omega) f (cx.fn f) k2 ar k1 h m _ k x.enc y.enc (fun out last pf => left_ok K ok (n + 2) x hx h (k.lb h) out wk last pf)
  rw [par_rev] at e
  exact e _ (par_eq (decide (m < h)) b _ s ▸ q)
end
end Mn
end
section
namespace Mn
theorem rn_f1 (cx : Cx) (f : Nat) (x : T) (m : Int) (s : S3) {r : Option (Nat × Int × Kd)} (e : (T.f1 f x).shape cx = r) : rn cx (.f1 f x) false m s = (match (generalizing := false) r with
      | some (0, h, k) => (rn cx x false (k.rb h) (((s.po (decide (m < h))).oPre (cx.tx (cx.fn f))))).pc (decide (m < h))
      | some (_, h, k) => ((rn cx x false (x.ll cx h (k.lb h)) (s.po (decide (m < h)))).oPost (cx.tx (cx.fn f))).pc (decide (m < h))
      | none => (rn cx x false 999 ((s.tk (cx.tx (cx.fn f))).raw [40])).raw [41]) := by
  subst e; rfl
theorem rn_f2 (cx : Cx) (f : Nat) (x y : T) (m : Int) (s : S3) {r : Option (Nat × Int × Kd)} (e : (T.f2 f x y).shape cx = r) : rn cx (.f2 f x y) false m s = (match (generalizing := false) r with
      | some (_, h, k) => (rn cx y false (k.rb h) ((rn cx x false (x.ll cx h (k.lb h)) (s.po (decide (m < h)))).oInf (cx.tx (cx.fn f)))).pc (decide (m < h))
      | none => (rn cx y false 999 ((rn cx x false 999 ((s.tk (cx.tx (cx.fn f))).raw [40])).raw [44])).raw [41]) := by
  subst e; rfl
theorem s1_po {s : S3} (c : Bool) (h : S1 s) : S1 (s.po c) := by
  cases c
  · exact h
  · exact .inr ⟨_, rfl⟩
theorem par_len (c : Bool) : (parE c).length ≤ 1 := by
  cases c
  · exact Nat.zero_le _
  · exact Nat.le_refl _
theorem ap3 {α : Type} (A : List α) (x y z : α) : A ++ [x, y, z] = A ++ [x] ++ [y] ++ [z] := by
  rw [← ap2 (A ++ [x]) y z, List.append_assoc]; rfl
theorem as2 {α : Type} (A : List α) (B : List α) (x y : α) : A ++ (B ++ [x, y]) = A ++ B ++ [x] ++ [y] := by
  rw [← List.append_assoc, ap2]
theorem as3 {α : Type} (A : List α) (B : List α) (x y z : α) : A ++ (B ++ [x, y, z]) = A ++ B ++ [x] ++ [y] ++ [z] := by
  rw [← List.append_assoc, ap3]
theorem as1 {α : Type} (A : List α) (B : List α) (x : α) : A ++ (B ++ [x]) = A ++ B ++ [x] := (List.append_assoc ..).symm
variable {CW NW : Nat → CallT} (K : Wk CW NW) {cx : Cx} {b : Bs} {gA gF : Nat → Prop} (ok : Ok cx b gA gF)
include K ok
theorem run_f1 (n : Nat) (f : Nat) (x : T) (h : (T.f1 f x).wf cx gA gF)
    (ih : ∀ m al s wk, S1 s → s.1.length + 8 * x.sz + 10 ≤ big → wk.length + 8 * x.sz + 8 ≤ big → RunS CW NW (n + 8) b s (wk ++ [rowT x.enc m al]) (rn cx x false m s) wk)
    (m : Int) (al : Bool) (s : S3) (wk : List D) (hs : S1 s) (ho : s.1.length + 8 * (T.f1 f x).sz + 10 ≤ big) (hw : wk.length + 8 * (T.f1 f x).sz + 8 ≤ big) : RunS CW NW (n + 8) b s (wk ++ [rowT (T.f1 f x).enc m al]) (rn cx (T.f1 f x) false m s) wk := by
  replace ho : s.1.length + 8 * (x.sz + 1) + 10 ≤ big := ho
  replace hw : wk.length + 8 * (x.sz + 1) + 8 ≤ big := hw
  have hS := shape_ok K ok (n + 4) (.f1 f x) h s.1 wk s.2.1 s.2.2
  obtain ⟨⟨ar, k1⟩, k2, k3, k4, k5⟩ := ok.fs f h.1
  cases e : (T.f1 f x).shape cx with
  | none =>
    rw [e] at hS
    rw [rn_f1 cx f x m s e]
    have w := wr_fn K ok n m al s hs wk (by omega) (by omega) f [x.enc] h.1 (Nat.le_succ 1) hS
    refine Runs.trans (runs_term (by omega) w) ?_
    have l1 := len_tk (s := s) (cx.tx (cx.fn f))
    show RunS CW NW (n + 8) b (s.tk (cx.tx (cx.fn f))) (wk ++ [rowR [41], rowT x.enc 999 true, rowR [40]]) _ wk
    rw [ap3]
    have b1 := len_raw (s := s.tk (cx.tx (cx.fn f))) [40]
    refine Runs.trans (run_raw K (n + 7) (Wt.one 40) _ _ (by omega) (by rw [ap1, ap1]; omega)) ?_
    refine Runs.trans (ih 999 true _ _ (.inr ⟨_, rfl⟩) (by omega) (by rw [ap1]; omega)) ?_
    have b2 := rn_len cx x false 999 ((s.tk (cx.tx (cx.fn f))).raw [40])
    exact run_raw K (n + 7) (Wt.one 41) _ _ (by omega) (by omega)
  | some p =>
    obtain ⟨j, g, k⟩ := p
    rw [e] at hS
    rw [rn_f1 cx f x m s e]
    have hpo := len_po (s := s) (decide (m < g))
    have hpl := par_len (decide (m < g))
    cases j with
    | zero =>
      have w := wr_pre K ok n m al s hs wk (by omega) (by omega) f x h.1 g k hS
      refine Runs.trans (runs_term (by omega) w) ?_
      have b1 := (up_pre (cx.tx (cx.fn f)) (s.po (decide (m < g)))).1
      show RunS CW NW (n + 8) b _ (wk ++ (parE (decide (m < g)) ++ [_])) _ wk
      rw [as1]
      refine Runs.trans (ih (k.rb g) false _ _ (.inr (up_pre _ _).2) (by omega) (by rw [List.length_append]; omega)) ?_
      have b2 := rn_len cx x false (k.rb g) ((s.po (decide (m < g))).oPre (cx.tx (cx.fn f)))
      exact run_pc K (n + 7) _ _ wk (by omega) (by omega)
    | succ j =>
      have ej : j = 1 := by
        have e' : (match cx.pre (cx.fn f) with | some p => some (0, p) | none => (match cx.post (cx.fn f) with | some p => some (2, p) | none => none)) = some (j + 1, g, k) := e
        cases e1 : cx.pre (cx.fn f) with
        | some p => rw [e1] at e'; cases e'
        | none =>
          rw [e1] at e'
          cases e2 : cx.post (cx.fn f) with
          | some p => rw [e2] at e'; cases e'; rfl
          | none => rw [e2] at e'; cases e'
      subst ej
      have w := wr_post K ok n m al s hs wk (by omega) (by omega) f x h.2 h.1 g k hS
      refine Runs.trans (runs_term (by omega) w) ?_
      show RunS CW NW (n + 8) b _ (wk ++ (parE (decide (m < g)) ++ [_, _])) _ wk
      rw [as2]
      refine Runs.trans (ih (x.ll cx g (k.lb g)) false _ _ (s1_po _ hs) (by omega) (by rw [ap1, List.length_append]; omega)) ?_
      have b2 := rn_len cx x false (x.ll cx g (k.lb g)) (s.po (decide (m < g)))
      refine Runs.trans (run_post K ok (n + 2) _ k5 _ (.inr (rn_last ..)) _ (by omega) (by rw [List.length_append]; omega)) ?_
      have b3 := (up_post (cx.tx (cx.fn f)) (rn cx x false (x.ll cx g (k.lb g)) (s.po (decide (m < g))))).1
      exact run_pc K (n + 7) _ _ wk (by omega) (by omega)
end Mn
end
section
namespace Mn
theorem rowsT_len (t : T) : (rowsT t).length ≤ 3 * t.sz := by
  induction t with
  | dot x y _ ih => show (rowsT y).length + 1 + 1 ≤ 3 * (x.sz + y.sz + 1); omega
  | a i =>
    show (if isNil (.a i) = true then [rowR [93]] else [rowR [124], rowT (T.a i).enc 999 true, rowR [93]]).length ≤ 3 * 1
    by_cases h : isNil (.a i) = true
    · rw [if_pos h]; exact Nat.le_add_left _ _
    · rw [if_neg h]; exact Nat.le_refl _
  | f1 f x => show 3 ≤ 3 * (x.sz + 1); omega
  | f2 f x y => show 3 ≤ 3 * (x.sz + y.sz + 1); omega
  | cu x => show 3 ≤ 3 * (x.sz + 1); omega
variable {CW NW : Nat → CallT} (K : Wk CW NW) {cx : Cx} {b : Bs} {gA gF : Nat → Prop} (ok : Ok cx b gA gF)
noncomputable def RunT (CW NW : Nat → CallT) (cx : Cx) (b : Bs) (n : Nat) (t : T) : Prop := ∀ m al s wk, S1 s → s.1.length + 8 * t.sz + 10 ≤ big → wk.length + 8 * t.sz + 8 ≤ big → RunS CW NW (n + 8) b s (wk ++ [rowT t.enc m al]) (rn cx t false m s) wk
noncomputable def RunL (CW NW : Nat → CallT) (cx : Cx) (b : Bs) (n : Nat) (t : T) : Prop := ∀ s wk, S1 s → s.1.length + 8 * t.sz + 12 ≤ big → wk.length + 8 * t.sz + 10 ≤ big → RunS CW NW (n + 8) b s (wk ++ (rowsT t).reverse) (rn cx t true 999 s) wk
include K ok
theorem run_f2 (n : Nat) (f : Nat) (x y : T) (h : (T.f2 f x y).wf cx gA gF) (ihx : RunT CW NW cx b n x) (ihy : RunT CW NW cx b n y) : RunT CW NW cx b n (.f2 f x y) := by
  intro m al s wk hs ho hw
  replace ho : s.1.length + 8 * (x.sz + y.sz + 1) + 10 ≤ big := ho
  replace hw : wk.length + 8 * (x.sz + y.sz + 1) + 8 ≤ big := hw
  have hS := shape_ok K ok (n + 4) (.f2 f x y) h s.1 wk s.2.1 s.2.2
  obtain ⟨⟨ar, k1⟩, k2, k3, k4, k5⟩ := ok.fs f h.1
  cases e : (T.f2 f x y).shape cx with
  | none =>
    rw [e] at hS
    rw [rn_f2 cx f x y m s e]
    have w := wr_fn K ok n m al s hs wk (by omega) (by omega) f [x.enc, y.enc] h.1 (Nat.le_refl 2) hS
    refine Runs.trans (runs_term (by omega) w) ?_
    have l1 := len_tk (s := s) (cx.tx (cx.fn f))
    show RunS CW NW (n + 8) b (s.tk (cx.tx (cx.fn f))) (wk ++ [rowR [41], rowT y.enc 999 true, rowR [44], rowT x.enc 999 true, rowR [40]]) _ wk
    rw [show wk ++ [rowR [41], rowT y.enc 999 true, rowR [44], rowT x.enc 999 true, rowR [40]] = wk ++ [rowR [41]] ++ [rowT y.enc 999 true] ++ [rowR [44]] ++ [rowT x.enc 999 true] ++ [rowR [40]] by rw [← ap3 (wk ++ [rowR [41]] ++ [rowT y.enc 999 true]), ← ap2 wk, List.append_assoc]; rfl]
    have b1 := len_raw (s := s.tk (cx.tx (cx.fn f))) [40]
    refine Runs.trans (run_raw K (n + 7) (Wt.one 40) _ _ (by omega) (by rw [ap1, ap1, ap1, ap1]; omega)) ?_
    refine Runs.trans (ihx 999 true _ _ (.inr ⟨_, rfl⟩) (by omega) (by rw [ap1, ap1, ap1]; omega)) ?_
    have b2 := rn_len cx x false 999 ((s.tk (cx.tx (cx.fn f))).raw [40])
    refine Runs.trans (run_raw K (n + 7) (Wt.one 44) _ _ (by omega) (by rw [ap1, ap1]; omega)) ?_
    have b4 := len_raw (s := rn cx x false 999 ((s.tk (cx.tx (cx.fn f))).raw [40])) [44]
    refine Runs.trans (ihy 999 true _ _ (.inr ⟨_, rfl⟩) (by omega) (by rw [ap1]; omega)) ?_
    have b3 := rn_len cx y false 999 ((rn cx x false 999 ((s.tk (cx.tx (cx.fn f))).raw [40])).raw [44])
    exact run_raw K (n + 7) (Wt.one 41) _ _ (by omega) (by omega)
  | some p =>
    obtain ⟨j, g, k⟩ := p
    rw [e] at hS
    rw [rn_f2 cx f x y m s e]
    have hpo := len_po (s := s) (decide (m < g))
    have hpl := par_len (decide (m < g))
    have ej : j = 1 := by
      have e' : (match cx.inf (cx.fn f) with | some p => some (1, p) | none => none) = some (j, g, k) := e
      cases e1 : cx.inf (cx.fn f) with
      | some p => rw [e1] at e'; cases e'; rfl
      | none => rw [e1] at e'; cases e'
    subst ej
    have w := wr_inf K ok n m al s hs wk (by omega) (by omega) f x y h.2.2.1 h.1 g k hS
    refine Runs.trans (runs_term (by omega) w) ?_
    show RunS CW NW (n + 8) b _ (wk ++ (parE (decide (m < g)) ++ [_, _, _])) _ wk
    rw [as3]
    refine Runs.trans (ihx (x.ll cx g (k.lb g)) false _ _ (s1_po _ hs) (by omega) (by rw [ap1, ap1, List.length_append]; omega)) ?_
    have b2 := rn_len cx x false (x.ll cx g (k.lb g)) (s.po (decide (m < g)))
    refine Runs.trans (run_inf K ok (n + 2) _ k5 h.2.1.1 h.2.1.2 _ (.inr (rn_last ..)) _ (by omega) (by rw [ap1, List.length_append]; omega)) ?_
    have b3 := (up_inf (cx.tx (cx.fn f)) (rn cx x false (x.ll cx g (k.lb g)) (s.po (decide (m < g))))).1
    refine Runs.trans (ihy (k.rb g) false _ _ (.inr (up_inf _ _).2) (by omega) (by rw [List.length_append]; omega)) ?_
    have b4 := rn_len cx y false (k.rb g) ((rn cx x false (x.ll cx g (k.lb g)) (s.po (decide (m < g)))).oInf (cx.tx (cx.fn f)))
    exact run_pc K (n + 7) _ _ wk (by omega) (by omega)
theorem run_a (n : Nat) (i : Nat) (h : (T.a i).wf cx gA gF) : RunT CW NW cx b n (.a i) := by
  intro m al s wk hs ho hw
  replace ho : s.1.length + 8 * 1 + 10 ≤ big := ho
  replace hw : wk.length + 8 * 1 + 8 ≤ big := hw
  exact runs_term (by omega) (wr_a K ok n m al s hs wk (by omega) (by omega) i h)
theorem run_cu (n : Nat) (x : T) (ih : RunT CW NW cx b n x) : RunT CW NW cx b n (.cu x) := by
  intro m al s wk hs ho hw
  replace ho : s.1.length + 8 * (x.sz + 1) + 10 ≤ big := ho
  replace hw : wk.length + 8 * (x.sz + 1) + 8 ≤ big := hw
  refine Runs.trans (runs_term (by omega) (w_curly K (n + 2) b s.1 wk s.2.1 s.2.2 al m x.enc hs (by omega) (by omega))) ?_
  show RunS CW NW (n + 8) b (s.tk [123]) (wk ++ [rowR [125], rowT x.enc 1201 true]) ((rn cx x false 1201 (s.tk [123])).raw [125]) wk
  rw [ap2]
  have l1 := len_tk (s := s) [123]
  refine Runs.trans (ih 1201 true _ _ (.inr ⟨_, rfl⟩) (by omega) (by rw [ap1]; omega)) ?_
  have b2 := rn_len cx x false 1201 (s.tk [123])
  exact run_raw K (n + 7) (Wt.one 125) _ _ (by omega) (by omega)
theorem run_dot (n : Nat) (x y : T) (h : (T.dot x y).wf cx gA gF) (ih : RunT CW NW cx b n x) (ihy : RunL CW NW cx b n y) : RunT CW NW cx b n (.dot x y) := by
  intro m al s wk hs ho hw
  replace ho : s.1.length + 8 * (x.sz + y.sz + 1) + 10 ≤ big := ho
  replace hw : wk.length + 8 * (x.sz + y.sz + 1) + 8 ≤ big := hw
  obtain ⟨tg, k, l, e1, e2, e3⟩ := end_form cx b gA gF ok y h.2
  have hsz := its_sz y
  have L := c_wlist K (n + 1) b s.1 wk s.2.1 s.2.2 hs (by omega) tg k l e2 (x.enc :: y.its) (by show _ + 2 * (y.its.length + 1) + 4 ≤ _; omega)
  rw [← e1, e3, rows_dot] at L
  have w : RC (CW (n + 8)) 36 [.ob 10, .d (T.dot x y).enc, .d (.int m), .d (.boo al)] (s.st b wk) (.d .non) (wst b (s.1 ++ sp s.2.1 s.2.2 91 ++ [.str [91]]) (wk ++ (rowT x.enc 999 true :: rowsT y).reverse) [91] false) := by
    intro Q q
    refine w_list K (n + 7) b s.1 wk s.2.1 s.2.2 al m [x.enc, y.enc] ?_
    rw [show tS 0 [x.enc, y.enc] = encL y.end_.enc (x.enc :: y.its) by show _ = tS 0 [x.enc, encL y.end_.enc y.its]; rw [enc_its]]
    exact L _ q
  refine Runs.trans (runs_term (by omega) w) ?_
  show RunS CW NW (n + 8) b (s.tk [91]) (wk ++ (rowT x.enc 999 true :: rowsT y).reverse) (rn cx y true 999 (rn cx x false 999 (s.tk [91]))) wk
  have l1 := len_tk (s := s) [91]
  have l2 := rowsT_len y
  rw [List.reverse_cons, ← List.append_assoc]
  refine Runs.trans (ih 999 true _ _ (.inr ⟨_, rfl⟩) (by omega) (by rw [List.length_append, List.length_reverse]; omega)) ?_
  have b2 := rn_len cx x false 999 (s.tk [91])
  exact ihy _ _ (.inr (rn_last ..)) (by omega) (by omega)
omit ok in
theorem tail3 (n : Nat) (t : T) (h1 : rowsT t = [rowR [124], rowT t.enc 999 true, rowR [93]]) (h2 : ∀ s, rn cx t true 999 s = (rn cx t false 999 (s.raw [124])).raw [93]) (ih : RunT CW NW cx b n t) : RunL CW NW cx b n t := by
  intro s wk hs ho hw
  rw [h1, h2]
  show RunS CW NW (n + 8) b s (wk ++ [rowR [93], rowT t.enc 999 true, rowR [124]]) _ wk
  rw [ap3]
  have l1 := len_raw (s := s) [124]
  refine Runs.trans (run_raw K (n + 7) (Wt.one 124) _ _ (by omega) (by rw [ap1, ap1]; omega)) ?_
  refine Runs.trans (ih 999 true _ _ (.inr ⟨_, rfl⟩) (by omega) (by rw [ap1]; omega)) ?_
  have b2 := rn_len cx t false 999 (s.raw [124])
  exact run_raw K (n + 7) (Wt.one 93) _ _ (by omega) (by omega)
theorem run_all (n : Nat) (t : T) : t.wf cx gA gF → RunT CW NW cx b n t ∧ RunL CW NW cx b n t := by
  induction t with
  | a i =>
    intro h
    refine ⟨run_a K ok n i h, ?_⟩
    by_cases hi : i = 0
    · subst hi
      intro s wk hs ho hw
      exact run_raw K (n + 7) (Wt.one 93) s wk (by omega) (by omega)
    · refine tail3 K n (.a i) ?_ (fun s => ?_) (run_a K ok n i h)
      · cases i with
        | zero => exact absurd rfl hi
        | succ i => rfl
      · show (if i = 0 then s.raw [93] else ((s.raw [124]).tk (cx.tx i)).raw [93]) = _
        rw [if_neg hi]; rfl
  | f1 f x ih =>
    intro h
    have r := run_f1 K ok n f x h (ih h.2).1
    exact ⟨r, tail3 K n _ rfl (fun _ => rfl) r⟩
  | f2 f x y ihx ihy =>
    intro h
    have r := run_f2 K ok n f x y h (ihx h.2.2.1).1 (ihy h.2.2.2).1
    exact ⟨r, tail3 K n _ rfl (fun _ => rfl) r⟩
  | cu x ih =>
    intro h
    have r := run_cu K ok n x (ih h).1
    exact ⟨r, tail3 K n _ rfl (fun _ => rfl) r⟩
  | dot x y ihx ihy =>
    intro h
    refine ⟨run_dot K ok n x y h (ihx h.1).1 (ihy h.2).2, ?_⟩
    intro s wk hs ho hw
    replace ho : s.1.length + 8 * (x.sz + y.sz + 1) + 12 ≤ big := ho
    replace hw : wk.length + 8 * (x.sz + y.sz + 1) + 10 ≤ big := hw
    show RunS CW NW (n + 8) b s (wk ++ (rowR [44] :: rowT x.enc 999 true :: rowsT y).reverse) (rn cx y true 999 (rn cx x false 999 (s.raw [44]))) wk
    have l1 := len_raw (s := s) [44]
    have l2 := rowsT_len y
    rw [List.reverse_cons, List.reverse_cons, ← List.append_assoc, ← List.append_assoc]
    refine Runs.trans (run_raw K (n + 7) (Wt.one 44) _ _ (by omega) (by rw [ap1, List.length_append, List.length_reverse]; omega)) ?_
    refine Runs.trans ((ihx h.1).1 999 true _ _ (.inr ⟨_, rfl⟩) (by omega) (by rw [List.length_append, List.length_reverse]; omega)) ?_
    have b2 := rn_len cx x false 999 (s.raw [44])
    exact (ihy h.2).2 _ _ (.inr (rn_last ..)) (by omega) (by omega)
end Mn
end
section
namespace Mn
noncomputable def ist (b : Bs) : List AO :=
  bst b [.ins 2 [(4, .ob 1), (8, .ob 6), (9, .d (.boo true)), (10, .d (.boo false)), (11, .d (.boo false)), (12, .ob 11), (13, .ob 12), (14, .ob 13), (15, .d (.str [])), (16, .d (.boo false)), (17, .ob 14)],
    .d0, .d0, .lst [], .lst []]
noncomputable def flat : List D → List Nat
  | [] => []
  | .str s :: r => s ++ flat r
  | _ :: r => flat r
inductive Txts : List D → List (List Nat) → Prop
  | nil : Txts [] []
  | cons {s : List Nat} {l : List D} {ss : List (List Nat)} (r : Txts l ss) : Txts (.str s :: l) (s :: ss)
variable {CW NW : Nat → CallT} (K : Wk CW NW) {cx : Cx} {b : Bs} {gA gF : Nat → Prop} (ok : Ok cx b gA gF)
include K ok
theorem text_walk (n : Nat) (t : T) (h : t.wf cx gA gF) (hz : t.sz ≤ 100000) (m : Int) {Q : AV → List AO → Prop}
    (q : ∀ k3 k4 k5 k6 : Option AV, wpSs P0 (CW (n + 8)) (NW (n + 8)) (dropB 5 ir31) [some (.ob 10), some (.d t.enc), some (.d (.int m)), k3, k4, k5, k6] ((rn cx t false m ([], [], false)).st b []) (retQ Q)) :
    CW (n + 9) 31 [.ob 10, .d t.enc, .d (.int m)] (ist b) Q := by
  refine K.c (fi := fi31) (ir := ir31) rfl rfl rfl ?_
  refine ex3 10 2 _ ⟨rfl, rfl, by exact Nat.le_of_ble_eq_true rfl, ?_⟩
  refine ex3 10 2 _ ⟨rfl, rfl, by exact Nat.le_of_ble_eq_true rfl, ?_⟩
  refine ex3 10 2 _ ⟨rfl, rfl, by exact Nat.le_of_ble_eq_true rfl, ?_⟩
  refine exC (.d (.ge _ _)) ?_
  refine an bg4 (an bg1 ?_)
  refine ex3 10 2 _ ⟨rfl, rfl, by exact Nat.le_of_ble_eq_true rfl, ?_⟩
  have hb := big_eq
  have R := (run_all K ok n t h).1 m (decide (1201 ≤ m)) ([], [], false) [] (.inl rfl) (by show 0 + 8 * t.sz + 10 ≤ big; omega) (by show 0 + 8 * t.sz + 8 ≤ big; omega)
  have W := R (.d t.enc) (.d (.int m)) (fun fl vs st => match fl with | .nx => wpSs P0 (CW (n + 8)) (NW (n + 8)) (dropB 5 ir31) vs st (retQ Q) | .bk => retQ Q .bk vs st | .ct => retQ Q .ct vs st | .rt v => retQ Q (.rt v) vs st)
    (fun k3 k4 k5 k6 => lw_end (n + 8) (.d t.enc) (.d (.int m)) k3 k4 k5 k6 b _ _ _ (q k3 k4 k5 k6)) none none none none
  rw [rT] at W
  exact W
end Mn
end
section
namespace Mn
noncomputable def Ad (s s' : S3) : Prop := ∃ ss : List (List Nat), s'.1 = s.1 ++ ss.map .str ∧ ∀ x ∈ ss, x.length ≤ 1000
theorem Ad.refl (s : S3) : Ad s s := ⟨[], (List.append_nil _).symm, fun _ h => nomatch h⟩
theorem Ad.trans {s s' s'' : S3} (x : Ad s s') (y : Ad s' s'') : Ad s s'' := by
  obtain ⟨a, e, h⟩ := x
  obtain ⟨c, e', h'⟩ := y
  refine ⟨a ++ c, by rw [e', e, List.map_append, List.append_assoc], fun z hz => ?_⟩
  rcases List.mem_append.mp hz with hz | hz
  · exact h z hz
  · exact h' z hz
theorem ad_raw {t : List Nat} (h : t.length ≤ 1000) (s : S3) : Ad s (s.raw t) := ⟨[t], rfl, fun x hx => by rw [List.mem_singleton.mp hx]; exact h⟩
theorem ad_tk {t : List Nat} (h : t.length ≤ 1000) (s : S3) : Ad s (s.tk t) := by
  unfold S3.tk sp
  by_cases e : nsB s.2.1 s.2.2 (t.headD 0) = true
  · rw [if_pos e]
    refine ⟨[[32], t], by show s.1 ++ [.str [32]] ++ [.str t] = _; rw [List.append_assoc]; rfl, fun x hx => ?_⟩
    rcases List.mem_cons.mp hx with hx | hx
    · rw [hx]; decide
    · rw [List.mem_singleton.mp hx]; exact h
  · rw [if_neg e]
    exact ⟨[t], by show s.1 ++ [] ++ [.str t] = _; rw [List.append_nil]; rfl, fun x hx => by rw [List.mem_singleton.mp hx]; exact h⟩
theorem ad_pre {t : List Nat} (h : t.length ≤ 1000) (s : S3) : Ad s (s.oPre t) := by
  unfold S3.oPre
  by_cases e : tightN t = true
  · rw [if_pos e]; exact ad_tk h s
  · rw [if_neg e]; exact (ad_tk h s).trans (ad_raw (by decide) _)
theorem ad_inf {t : List Nat} (h : t.length ≤ 1000) (s : S3) : Ad s (s.oInf t) := by
  unfold S3.oInf
  by_cases e : tightN t = true
  · rw [if_pos e]; exact ad_tk h s
  · rw [if_neg e]; exact ((ad_raw (by decide) s).trans (ad_raw h _)).trans (ad_raw (by decide) _)
theorem ad_post {t : List Nat} (h : t.length ≤ 1000) (s : S3) : Ad s (s.oPost t) := by
  unfold S3.oPost
  by_cases e : tightN t = true
  · rw [if_pos e]; exact ad_tk h s
  · rw [if_neg e]; exact (ad_raw (by decide) s).trans (ad_raw h _)
theorem ad_po (c : Bool) (s : S3) : Ad s (s.po c) := by
  cases c
  · exact .refl s
  · exact ad_tk (by decide) s
theorem ad_pc (c : Bool) (s : S3) : Ad s (s.pc c) := by
  cases c
  · exact .refl s
  · exact ad_raw (by decide) s
theorem ad_bar (tl : Bool) {s s' : S3} (g : S3 → S3) (hg : ∀ s, Ad s (g s)) : Ad s (if tl = true then (g (if tl = true then s.raw [124] else s)).raw [93] else g (if tl = true then s.raw [124] else s)) := by
  cases tl
  · exact hg s
  · exact ((ad_raw (by decide) s).trans (hg _)).trans (ad_raw (by decide) _)
theorem rn_ad (cx : Cx) (gA gF : Nat → Prop) (hA : ∀ i, gA i → (cx.tx i).length ≤ 1000) (hF : ∀ f, gF f → gA (cx.fn f)) (t : T) : t.wf cx gA gF → ∀ (tl : Bool) (m : Int) (s : S3), Ad s (rn cx t tl m s) := by
  induction t with
  | a i =>
    intro h tl m s
    cases tl with
    | false => exact ad_tk (hA i h.1) s
    | true =>
      show Ad s (if i = 0 then s.raw [93] else ((s.raw [124]).tk (cx.tx i)).raw [93])
      by_cases e : i = 0
      · rw [if_pos e]; exact ad_raw (by decide) s
      · rw [if_neg e]; exact ((ad_raw (by decide) s).trans (ad_tk (hA i h.1) _)).trans (ad_raw (by decide) _)
  | f1 f x ih =>
    intro h tl m s
    have ht := hA _ (hF f h.1)
    refine ad_bar tl (s' := s) (fun s => match (T.f1 f x).shape cx with
      | some (0, h, k) => (rn cx x false (k.rb h) (((s.po (decide (m < h))).oPre (cx.tx (cx.fn f))))).pc (decide (m < h))
      | some (_, h, k) => ((rn cx x false (x.ll cx h (k.lb h)) (s.po (decide (m < h)))).oPost (cx.tx (cx.fn f))).pc (decide (m < h))
      | none => (rn cx x false 999 ((s.tk (cx.tx (cx.fn f))).raw [40])).raw [41]) fun s => ?_
    split
    · exact (((ad_po _ s).trans (ad_pre ht _)).trans (ih h.2 _ _ _)).trans (ad_pc _ _)
    · exact (((ad_po _ s).trans (ih h.2 _ _ _)).trans (ad_post ht _)).trans (ad_pc _ _)
    · exact (((ad_tk ht s).trans (ad_raw (by decide) _)).trans (ih h.2 _ _ _)).trans (ad_raw (by decide) _)
  | f2 f x y ihx ihy =>
    intro h tl m s
    have ht := hA _ (hF f h.1)
    refine ad_bar tl (s' := s) (fun s => match (T.f2 f x y).shape cx with
      | some (_, h, k) => (rn cx y false (k.rb h) ((rn cx x false (x.ll cx h (k.lb h)) (s.po (decide (m < h)))).oInf (cx.tx (cx.fn f)))).pc (decide (m < h))
      | none => (rn cx y false 999 ((rn cx x false 999 ((s.tk (cx.tx (cx.fn f))).raw [40])).raw [44])).raw [41]) fun s => ?_
    split
    · exact ((((ad_po _ s).trans (ihx h.2.2.1 _ _ _)).trans (ad_inf ht _)).trans (ihy h.2.2.2 _ _ _)).trans (ad_pc _ _)
    · exact (((((ad_tk ht s).trans (ad_raw (by decide) _)).trans (ihx h.2.2.1 _ _ _)).trans (ad_raw (by decide) _)).trans (ihy h.2.2.2 _ _ _)).trans (ad_raw (by decide) _)
  | cu x ih =>
    intro h tl m s
    refine ad_bar tl (s' := s) (fun s => (rn cx x false 1201 (s.tk [123])).raw [125]) fun s => ?_
    exact ((ad_tk (by decide) s).trans (ih h _ _ _)).trans (ad_raw (by decide) _)
  | dot x y ihx ihy =>
    intro h tl m s
    show Ad s (rn cx y true 999 (rn cx x false 999 (if tl = true then s.raw [44] else s.tk [91])))
    refine Ad.trans ?_ ((ihx h.1 _ _ _).trans (ihy h.2 _ _ _))
    cases tl
    · exact ad_tk (by decide) s
    · exact ad_raw (by decide) s
end Mn
end
section
namespace Mn
theorem join_nil (ss : List (List Nat)) : joinN [] ss = ss.flatten := by
  induction ss with
  | nil => rfl
  | cons x r ih =>
    cases r with
    | nil => show x = x ++ []; rw [List.append_nil]
    | cons y r => show x ++ [] ++ joinN [] (y :: r) = _; rw [List.append_nil, ih]; rfl
theorem flat_map (ss : List (List Nat)) : flat (ss.map .str) = ss.flatten := by
  induction ss with
  | nil => rfl
  | cons x r ih => show x ++ flat (r.map .str) = _; rw [ih]; rfl
theorem sum_le (ss : List (List Nat)) (h : ∀ x ∈ ss, x.length ≤ 1000) : (ss.map (·.length)).sum ≤ 1000 * ss.length := by
  induction ss with
  | nil => exact Nat.le_refl _
  | cons x r ih =>
    have h1 := ih fun y hy => h y (List.mem_cons_of_mem _ hy)
    have h2 := h x List.mem_cons_self
    rw [List.map_cons, List.sum_cons, List.length_cons]
    omega
variable {CW NW : Nat → CallT} (K : Wk CW NW) {cx : Cx} {b : Bs} {gA gF : Nat → Prop} (ok : Ok cx b gA gF)
include K ok
theorem c_text (n : Nat) (t : T) (h : t.wf cx gA gF) (hz : t.sz ≤ 2000) (m : Int) {Q : AV → List AO → Prop} (q : Q (.d (.str (flat (rn cx t false m ([], [], false)).1))) ((rn cx t false m ([], [], false)).st b [])) :
    CW (n + 9) 31 [.ob 10, .d t.enc, .d (.int m)] (ist b) Q := by
  refine text_walk K ok n t h (by omega) m fun k3 k4 k5 k6 => ?_
  obtain ⟨ss, e, hs⟩ := rn_ad cx gA gF (fun i hi => by
    obtain ⟨_, w, _, _⟩ := ok.tx i hi
    obtain ⟨u, eu, hu⟩ := w.en
    rw [eu, ap1]; omega) (fun f hf => (ok.fs f hf).2.2.2.2) t h false m ([], [], false)
  replace e : (rn cx t false m ([], [], false)).1 = ss.map .str := e
  have hl := rn_len cx t false m ([], [], false)
  rw [e, List.length_map] at hl
  replace hl : ss.length ≤ 0 + 8 * t.sz := hl
  have hsum := sum_le ss hs
  rw [e, flat_map, ← join_nil] at q
  unfold S3.st at q ⊢
  rw [e] at q ⊢
  refine an (.str rfl) (exM (.join (ss := ss) (codes "") rfl ?_) ?_)
  · rw [codes1.2.2.2.2]
    show _ + ss.length * 0 ≤ _
    omega
  · rw [codes1.2.2.2.2]
    exact q
end Mn
end
section
namespace Mn
theorem exS {st : List AO} {o1 o2 : AO} {n : Nat} {k v : D} {K : List AO → Prop} (h : st[n]? = some o1) (d : DS o1 k v o2) (q : K (st.set n o2)) : ∃ (n' : Nat) (k' v' : D) (o1 o2 : AO), AV.ob n = .ob n' ∧ AV.d k = .d k' ∧ AV.d v = .d v' ∧ st[n']? = some o1 ∧ DS o1 k' v' o2 ∧ K (st.set n' o2) := ⟨n, k, v, o1, o2, rfl, rfl, rfl, h, d, q⟩
noncomputable def sst (row texts : List D) (am : AO) (fs : List D) (fn : AO) (rest : List AO) : List AO :=
  .lst row :: .ins 0 [(0, .ob 2), (1, .ob 3), (2, .ob 4), (3, .ob 5)] :: .lst texts :: am :: .lst fs :: fn :: rest
variable {CW NW : Nat → CallT} (K : Wk CW NW) (row texts : List D) (am : AO) (fs : List D) (fn : AO) (rest : List AO)
include K
theorem c_atom_old (n : Nat) (s : List Nat) (i : Nat) (h : DG am (.str s) (some (.int i))) : RC (CW (n + 1)) 3 [.ob 1, .d (.str s)] (sst row texts am fs fn rest) (.d (.int i)) (sst row texts am fs fn rest) := by
  intro Q q
  refine K.c (fi := fi3) (ir := ir3) rfl rfl rfl ?_
  refine an (.get rfl h) (exM (.getE _ rfl h) ?_)
  refine exC (.d (.ge _ _)) ?_
  exact q
theorem c_atom_new (n : Nat) (s : List Nat) (an' : AO) (h : DG am (.str s) none) (hd : DS am (.str s) (.int texts.length) an') (hl : texts.length ≤ big) : RC (CW (n + 1)) 3 [.ob 1, .d (.str s)] (sst row texts am fs fn rest) (.d (.int texts.length)) (sst row (texts ++ [.str s]) an' fs fn rest) := by
  intro Q q
  refine K.c (fi := fi3) (ir := ir3) rfl rfl rfl ?_
  refine an (.get rfl h) (exM (.getE _ rfl h) ?_)
  refine exC (.d (.ge _ _)) ?_
  refine exB (.lenO (l := texts) rfl hl) ?_
  refine an (.lst rfl rfl) (exM (.append _ rfl hl) ?_)
  exact ⟨3, .str s, .int texts.length, am, an', rfl, rfl, rfl, rfl, hd, q⟩
theorem c_functor_old (n : Nat) (a r : Int) (i : Nat) (h : DG fn (.tup [.int a, .int r]) (some (.int i))) : RC (CW (n + 1)) 5 [.ob 1, .d (.int a), .d (.int r)] (sst row texts am fs fn rest) (.d (.int i)) (sst row texts am fs fn rest) := by
  intro Q q
  refine K.c (fi := fi5) (ir := ir5) rfl rfl rfl ?_
  refine an bg2 ?_
  refine an (.get rfl h) (exM (.getE _ rfl h) ?_)
  refine exC (.d (.ge _ _)) ?_
  exact q
theorem c_functor_new (n : Nat) (a r : Int) (fn' : AO) (h : DG fn (.tup [.int a, .int r]) none) (hd : DS fn (.tup [.int a, .int r]) (.int fs.length) fn') (hl : fs.length ≤ big) : RC (CW (n + 1)) 5 [.ob 1, .d (.int a), .d (.int r)] (sst row texts am fs fn rest) (.d (.int fs.length)) (sst row texts am (fs ++ [.tup [.int a, .int r]]) fn' rest) := by
  intro Q q
  refine K.c (fi := fi5) (ir := ir5) rfl rfl rfl ?_
  refine an bg2 ?_
  refine an (.get rfl h) (exM (.getE _ rfl h) ?_)
  refine exC (.d (.ge _ _)) ?_
  refine exB (.lenO (l := fs) rfl hl) ?_
  refine an (.lst rfl rfl) (exM (.append _ rfl hl) ?_)
  exact ⟨5, .tup [.int a, .int r], .int fs.length, fn, fn', rfl, rfl, rfl, rfl, hd, q⟩
end Mn
end
section
namespace Mn
theorem flat_app (a b : List D) : flat (a ++ b) = flat a ++ flat b := by
  induction a with
  | nil => rfl
  | cons x r ih =>
    cases x with
    | str s => show s ++ flat (r ++ b) = s ++ flat r ++ flat b; rw [ih, List.append_assoc]
    | _ => exact ih
noncomputable def bl (last : List Nat) (pf : Bool) (f : Nat) : List Nat := if nsB last pf f = true then [32] else []
theorem flat_sp (last : List Nat) (pf : Bool) (f : Nat) : flat (sp last pf f) = bl last pf f := by
  unfold sp bl
  by_cases h : nsB last pf f = true
  · rw [if_pos h, if_pos h]; rfl
  · rw [if_neg h, if_neg h]; rfl
theorem gl_app (a : List Nat) {b : List Nat} (h : b ≠ []) : (a ++ b).getLastD 0 = b.getLastD 0 := by
  cases b with
  | nil => exact absurd rfl h
  | cons x r => rw [List.getLastD_eq_getLast?, List.getLastD_eq_getLast?, List.getLast?_append, List.getLast?_cons]; rfl
theorem hd_app {a : List Nat} (b : List Nat) (h : a ≠ []) : (a ++ b).headD 0 = a.headD 0 := by
  cases a with
  | nil => exact absurd rfl h
  | cons x r => rfl
theorem ne_app {a : List Nat} (b : List Nat) (h : a ≠ []) : a ++ b ≠ [] := fun e => h (List.append_eq_nil_iff.mp e).1
noncomputable def Em (s s' : S3) (w : List Nat) : Prop := flat s'.1 = flat s.1 ++ (bl s.2.1 s.2.2 (w.headD 0) ++ w) ∧ s'.2 = ([w.getLastD 0], false)
noncomputable def Rw (s s' : S3) (w : List Nat) : Prop := flat s'.1 = flat s.1 ++ w ∧ s'.2 = ([w.getLastD 0], false)
theorem em_tk (t : List Nat) (s : S3) : Em s (s.tk t) t := ⟨by show flat (s.1 ++ sp _ _ _ ++ [.str t]) = _; rw [flat_app, flat_app, flat_sp, List.append_assoc]; show _ ++ (_ ++ (t ++ [])) = _; rw [List.append_nil], rfl⟩
theorem rw_raw (t : List Nat) (s : S3) : Rw s (s.raw t) t := ⟨by show flat (s.1 ++ [.str t]) = _; rw [flat_app]; show _ ++ (t ++ []) = _; rw [List.append_nil], rfl⟩
theorem Em.rw {s s' s'' : S3} {w v : List Nat} (x : Em s s' w) (y : Rw s' s'' v) (hw : w ≠ []) (hv : v ≠ []) : Em s s'' (w ++ v) :=
  ⟨by rw [y.1, x.1, hd_app _ hw, List.append_assoc, List.append_assoc], by rw [y.2, gl_app _ hv]⟩
theorem Rw.rw {s s' s'' : S3} {w v : List Nat} (x : Rw s s' w) (y : Rw s' s'' v) (hv : v ≠ []) : Rw s s'' (w ++ v) :=
  ⟨by rw [y.1, x.1, List.append_assoc], by rw [y.2, gl_app _ hv]⟩
theorem Em.em {s s' s'' : S3} {w v z : List Nat} (x : Em s s' w) (y : Em s' s'' v) (hw : w ≠ []) (hv : v ≠ []) (hz : bl [w.getLastD 0] false (v.headD 0) ++ v = z) : Em s s'' (w ++ z) := by
  subst hz
  refine ⟨?_, ?_⟩
  · rw [y.1, x.1, hd_app _ hw, x.2, List.append_assoc, List.append_assoc]
  · rw [y.2, gl_app _ (fun e => hv (List.append_eq_nil_iff.mp e).2), gl_app _ hv]
theorem Rw.em {s s' s'' : S3} {w v z : List Nat} (x : Rw s s' w) (y : Em s' s'' v) (hv : v ≠ []) (hz : bl [w.getLastD 0] false (v.headD 0) ++ v = z) : Rw s s'' (w ++ z) := by
  subst hz
  refine ⟨?_, ?_⟩
  · rw [y.1, x.1, x.2, List.append_assoc]
  · rw [y.2, gl_app _ (fun e => hv (List.append_eq_nil_iff.mp e).2), gl_app _ hv]
noncomputable def held (c : Bool) (s : List Nat) : List Nat := if c = true then 40 :: s ++ [41] else s
theorem bl_open : ∀ l ∈ [40, 91, 123, 44, 124, 32], ∀ f, bl [l] false f = [] := by
  intro l h f
  have w : ∀ l ∈ [40, 91, 123, 44, 124, 32], (l = 32 ∨ (wordB l = false ∧ symB l = false ∧ (l == 39) = false)) := by decide +kernel
  have e : nsC l false f = false := by
    rcases w l h with rfl | ⟨a, b, c⟩
    · rfl
    · unfold nsC; rw [a, b, c]
      by_cases h32 : l = 32
      · rw [if_pos h32]
      · rw [if_neg h32]; rfl
  unfold bl
  show (if nsC l false f = true then _ else _) = _
  rw [e]; rfl
theorem em_held (c : Bool) {g : S3 → S3} {w : List Nat} (hw : w ≠ []) (h : ∀ s, Em s (g s) w) (s : S3) : Em s ((g (s.po c)).pc c) (held c w) := by
  cases c
  · exact h s
  · refine ((em_tk [40] s).em (h _) (List.cons_ne_nil _ _) hw (z := w) (by rw [show [40].getLastD 0 = 40 from rfl, bl_open 40 (by decide)]; rfl)).rw (rw_raw [41] _) (List.cons_ne_nil _ _) (List.cons_ne_nil _ _)
noncomputable def inMT (c : Nat) : Bool := c == 45 || c == 126
noncomputable def afterM (s : List Nat) : List Nat := if inMT (s.headD 0) = true then 45 :: 32 :: s else 45 :: s
noncomputable def aheadS (s : List Nat) (c : Nat) : List Nat := if inMT (s.getLastD 0) = true then s ++ [32, c] else s ++ [c]
noncomputable def wF : List Nat := [102, 111, 111]
noncomputable def wY : List Nat := [121, 101, 115]
noncomputable def Hs : List Nat := [40, 45, 91, 98, 102, 103, 123]
noncomputable def Ls : List Nat := [41, 93, 98, 115, 125, 126]
structure Good (w : List Nat) : Prop where
  ne : w ≠ []
  hd : w.headD 0 ∈ Hs
  lc : w.getLastD 0 ∈ Ls
theorem Good.app {a b : List Nat} (ha : a ≠ []) (hb : b ≠ []) (h : a.headD 0 ∈ Hs) (l : b.getLastD 0 ∈ Ls) : Good (a ++ b) := ⟨ne_app _ ha, by rw [hd_app _ ha]; exact h, by rw [gl_app _ hb]; exact l⟩
theorem Good.held {s : List Nat} (g : Good s) (c : Bool) : Good (held c s) := by
  cases c with
  | false => exact g
  | true => exact Good.app (a := 40 :: s) (b := [41]) (List.cons_ne_nil _ _) (List.cons_ne_nil _ _) (by show 40 ∈ Hs; decide) (by decide)
theorem bl_m : ∀ f ∈ Hs, bl [45] false f = if inMT f = true then [32] else [] := by decide +kernel
theorem bl_mp : ∀ f ∈ Hs, bl [45] true f = if f = 40 then [32] else if inMT f = true then [32] else [] := by decide +kernel
theorem bl_to : ∀ l ∈ Ls, bl [l] false 45 = (if inMT l = true then [32] else []) ∧ bl [l] false 126 = if inMT l = true then [32] else [] := by decide +kernel
theorem after_eq {s : List Nat} (h : Good s) : [45] ++ (bl [45] false (s.headD 0) ++ s) = afterM s := by
  rw [bl_m _ h.hd]
  unfold afterM
  by_cases e : inMT (s.headD 0) = true
  · rw [if_pos e, if_pos e]; rfl
  · rw [if_neg e, if_neg e]; rfl
theorem ahead_eq {s : List Nat} (h : Good s) {c : Nat} (hc : c = 45 ∨ c = 126) : s ++ (bl [s.getLastD 0] false c ++ [c]) = aheadS s c := by
  have e : bl [s.getLastD 0] false c = if inMT (s.getLastD 0) = true then [32] else [] := by
    rcases hc with rfl | rfl
    · exact (bl_to _ h.lc).1
    · exact (bl_to _ h.lc).2
  rw [e]
  unfold aheadS
  by_cases e : inMT (s.getLastD 0) = true
  · rw [if_pos e, if_pos e]; rfl
  · rw [if_neg e, if_neg e]; rfl
theorem ahead_ne (s : List Nat) (c : Nat) : aheadS s c ≠ [] := by
  unfold aheadS
  by_cases e : inMT (s.getLastD 0) = true
  · rw [if_pos e]; exact fun e => nomatch (List.append_eq_nil_iff.mp e).2
  · rw [if_neg e]; exact fun e => nomatch (List.append_eq_nil_iff.mp e).2
theorem ahead_gl (s : List Nat) (c : Nat) : (aheadS s c).getLastD 0 = c := by
  unfold aheadS
  by_cases e : inMT (s.getLastD 0) = true
  · rw [if_pos e, gl_app _ (List.cons_ne_nil _ _)]; rfl
  · rw [if_neg e, gl_app _ (List.cons_ne_nil _ _)]; rfl
theorem ahead_hd {s : List Nat} (c : Nat) (h : Good s) : (aheadS s c).headD 0 ∈ Hs := by
  unfold aheadS
  by_cases e : inMT (s.getLastD 0) = true
  · rw [if_pos e, hd_app _ h.ne]; exact h.hd
  · rw [if_neg e, hd_app _ h.ne]; exact h.hd
theorem after_good {s : List Nat} (h : Good s) : Good (afterM s) := by
  rw [← after_eq h]
  exact Good.app (List.cons_ne_nil _ _) (fun e => h.ne (List.append_eq_nil_iff.mp e).2) (by decide) (by rw [gl_app _ h.ne]; exact h.lc)
end Mn
end
section
namespace Mn
structure Sig where
  inf : Bool → Int × Kd
  pre : Bool → Int × Kd
  post : Bool → Int × Kd
noncomputable def hOk (p : Int × Kd) : Prop := 1 ≤ p.1 ∧ p.1 ≤ 1200
structure GS (g : Sig) : Prop where
  hi : ∀ i, hOk (g.inf i)
  hp : ∀ i, hOk (g.pre i)
  hq : ∀ i, hOk (g.post i)
noncomputable def aF (i : Bool) : Nat := if i = true then 29 else 3
noncomputable def aP (i : Bool) : Nat := if i = true then 31 else 30
noncomputable def wSg (i : Bool) : List Nat := if i = true then wF else [45]
noncomputable def wPg (i : Bool) : List Nat := if i = true then wY else [126]
noncomputable def okF (fs : List D) (f a : Nat) : Prop := a ∈ [3, 29, 30, 31, 33] ∧ f ≠ 0 ∧ f ≠ 9 ∧ ∃ ar, fs[f]? = some (.tup [.int a, ar])
structure Ag (g : Sig) (fs : List D) (cx : Cx) (gA gF : Nat → Prop) : Prop where
  txF : ∀ i, cx.tx (aF i) = wSg i
  txP : ∀ i, cx.tx (aP i) = wPg i
  txb : cx.tx 32 = [98]
  txg : cx.tx 33 = [103]
  inf : ∀ i, cx.inf (aF i) = some (g.inf i)
  pre : ∀ i, cx.pre (aF i) = some (g.pre i)
  post : ∀ i, cx.post (aP i) = some (g.post i)
  preP : ∀ i, cx.pre (aP i) = none
  no : ∀ i, i = 0 ∨ i = 32 ∨ i = 33 → cx.pre i = none ∧ cx.inf i = none ∧ cx.post i = none
  ga : gA 0 ∧ gA 32
  fn : ∀ f a, okF fs f a → cx.fn f = a ∧ gF f
abbrev Due := Option (Nat × Int × Kd)
noncomputable def tallD : Due → Int
  | some (_, h, _) => h
  | none => 0
noncomputable def reachD : Due → Int
  | some (_, h, k) => k.rb h
  | none => 0
noncomputable def TailOk (cx : Cx) (t : T) (w : List Nat) : Bool → Prop
  | true => ∀ s, Rw s (rn cx t true 999 s) (44 :: w.drop 1)
  | false => ∀ s, rn cx t true 999 s = (rn cx t false 999 (s.raw [124])).raw [93]
structure LI (g : Sig) (fs : List D) (t : T) (w : List Nat) (ls : Bool) (due : Due) : Prop where
  good : Good w
  ln : w.length ≤ 10 * t.sz
  du : ∀ p, due = some p → hOk p.2
  lst : ls = true → ∃ y, w = 91 :: y ∧ y ≠ [] ∧ y.getLastD 0 = 93
  at_ : ∀ cx gA gF, Ag g fs cx gA gF → t.wf cx gA gF ∧ t.shape cx = due ∧ (∀ m s, 0 ≤ m → Em s (rn cx t false m s) (held (decide (m < tallD due)) w)) ∧ TailOk cx t w ls
theorem held_len (c : Bool) (s : List Nat) : (held c s).length ≤ s.length + 2 := by
  cases c
  · exact Nat.le_add_right _ _
  · show (40 :: s ++ [41]).length ≤ _; rw [ap1]; exact Nat.le_refl _
theorem ahead_len (s : List Nat) (c : Nat) : (aheadS s c).length ≤ s.length + 2 := by
  unfold aheadS
  by_cases e : inMT (s.getLastD 0) = true
  · rw [if_pos e, List.length_append]; exact Nat.le_refl _
  · rw [if_neg e, List.length_append]; exact Nat.le_succ _
theorem after_len (s : List Nat) : (afterM s).length ≤ s.length + 2 := by
  unfold afterM
  by_cases e : inMT (s.headD 0) = true
  · rw [if_pos e]; exact Nat.le_refl _
  · rw [if_neg e]; exact Nat.le_succ _
theorem lb_le (k : Kd) (h : Int) (hh : 1 ≤ h) : k.lb h ≤ h ∧ 0 ≤ k.lb h := by cases k <;> (dsimp only [Kd.lb]; omega)
theorem rb_le (k : Kd) (h : Int) (hh : 1 ≤ h) : k.rb h ≤ h ∧ 0 ≤ k.rb h := by cases k <;> (dsimp only [Kd.rb]; omega)
theorem ll_ok {cx : Cx} {t : T} {due : Due} (e : t.shape cx = due) (du : ∀ p, due = some p → hOk p.2) (h m : Int) (hh : 1 ≤ h) (hm : m ≤ h ∧ 0 ≤ m) : 0 ≤ t.ll cx h m ∧ decide (t.ll cx h m < tallD due) = (decide (m < tallD due) || decide (h ≤ reachD due)) := by
  unfold T.ll
  rw [e]
  cases due with
  | none =>
    refine ⟨hm.2, ?_⟩
    show decide (m < 0) = (decide (m < 0) || decide (h ≤ 0))
    rw [decide_eq_false (p := h ≤ 0) (by omega), Bool.or_false]
  | some p =>
    obtain ⟨j, h', k⟩ := p
    have hb := du _ rfl
    have h1 : 1 ≤ h' := hb.1
    have r := rb_le k h' h1
    show 0 ≤ (if h' = h ∧ k.rb h' = h then h - 1 else m) ∧ decide ((if h' = h ∧ k.rb h' = h then h - 1 else m) < h') = (decide (m < h') || decide (h ≤ k.rb h'))
    by_cases c : h' = h ∧ k.rb h' = h
    · rw [if_pos c, decide_eq_true (p := h - 1 < h') (by omega), decide_eq_true (p := h ≤ k.rb h') (by omega), Bool.or_true]
      exact ⟨by omega, rfl⟩
    · rw [if_neg c]
      refine ⟨hm.2, ?_⟩
      by_cases c2 : m < h'
      · rw [decide_eq_true c2]; rfl
      · rw [decide_eq_false c2, decide_eq_false (p := h ≤ k.rb h') (by omega)]; rfl
theorem tall_le {due : Due} (du : ∀ p, due = some p → hOk p.2) : tallD due ≤ 1200 := by
  cases due with
  | none => exact (by decide : (0 : Int) ≤ 1200)
  | some p => exact (du p rfl).2
theorem tg1 : tightN [45] = true ∧ tightN wF = false ∧ tightN [126] = true ∧ tightN wY = false := by decide +kernel
theorem cons_ne {a : Nat} {l : List Nat} : a :: l ≠ [] := List.cons_ne_nil _ _
theorem nob {w v : List Nat} {l : Nat} (e : w.getLastD 0 = l) (h : l ∈ [40, 91, 123, 44, 124, 32]) : bl [w.getLastD 0] false (v.headD 0) ++ v = v := by rw [e, bl_open l h]; rfl
theorem rw_sp (w : List Nat) (s : S3) : Rw s (((s.raw [32]).raw w).raw [32]) ([32] ++ w ++ [32]) := ⟨by
  show flat (((s.1 ++ [.str [32]]) ++ [.str w]) ++ [.str [32]]) = _
  rw [flat_app, flat_app, flat_app]
  show flat s.1 ++ [32] ++ (w ++ []) ++ [32] = _
  rw [List.append_nil, List.append_assoc, List.append_assoc, List.append_assoc], by rw [gl_app _ cons_ne]; rfl⟩
section
variable {g : Sig} (G : GS g) {fs : List D} {t : T} {w : List Nat} {ls : Bool} {due : Due}
theorem li_leaf : LI g fs (.a 32) [98] false none := ⟨⟨cons_ne, by decide, by decide⟩, by decide, fun _ e => (nomatch e), fun e => (nomatch e), fun cx gA gF A => by
  have n := A.no 32 (.inr (.inl rfl))
  refine ⟨⟨A.ga.2, n⟩, rfl, fun m s hm => ?_, fun s => rfl⟩
  show Em s (s.tk (cx.tx 32)) (held (decide (m < 0)) [98])
  rw [A.txb, decide_eq_false (by omega)]
  exact em_tk _ _⟩
theorem op_at {cx : Cx} {t : T} {h : Int} {w : List Nat} (k : S3 → S3) (hw : w ≠ []) (H : ∀ s, Em s (k s) w) (e : ∀ m s, rn cx t false m s = (k (s.po (decide (m < h)))).pc (decide (m < h))) (m : Int) (s : S3) : Em s (rn cx t false m s) (held (decide (m < h)) w) := by
  rw [e]; exact em_held _ hw H s
variable (L : LI g fs t w ls due)
include L
theorem LI.heldL (c : Bool) : Good (held c w) := L.good.held c
include G
theorem li_infL (i : Bool) (f : Nat) (hf : okF fs f (aF i)) {l w' : List Nat} (hl : l = held (decide ((g.inf i).2.lb (g.inf i).1 < tallD due) || decide ((g.inf i).1 ≤ reachD due)) w) (hw : w' = if i = true then l ++ [32, 102, 111, 111, 32, 98] else aheadS l 45 ++ [98]) :
    LI g fs (.f2 f t (.a 32)) w' false (some (1, g.inf i)) := by
  have gl : Good l := hl ▸ L.good.held _
  have ll : l.length ≤ w.length + 2 := hl ▸ held_len _ _
  have hi := G.hi i
  have lb := lb_le (g.inf i).2 _ hi.1
  have ln := L.ln
  have gd : Good w' := by
    subst hw
    cases i
    · exact Good.app (ahead_ne _ _) cons_ne (ahead_hd _ gl) (by decide)
    · exact Good.app gl.ne cons_ne gl.hd (by decide)
  refine ⟨gd, ?_, fun p e => by cases e; exact hi, fun e => (nomatch e), fun cx gA gF A => ?_⟩
  · subst hw
    have := ahead_len l 45
    show _ ≤ 10 * (t.sz + 1 + 1)
    cases i
    · show (aheadS l 45 ++ [98]).length ≤ _; rw [ap1]; omega
    · show (l ++ [32, 102, 111, 111, 32, 98]).length ≤ _; rw [List.length_append]; show _ + 6 ≤ _; omega
  · obtain ⟨wf, sh, em, tl⟩ := L.at_ cx gA gF A
    obtain ⟨wl, shl, eml, tll⟩ := (li_leaf (g := g) (fs := fs)).at_ cx gA gF A
    obtain ⟨e1, e2⟩ := A.fn f _ hf
    have sh' : (T.f2 f t (.a 32)).shape cx = some (1, g.inf i) := by
      show (match cx.inf (cx.fn f) with | some p => some (1, p) | none => none) = _
      rw [e1, A.inf]
    have l2 := ll_ok sh L.du (g.inf i).1 ((g.inf i).2.lb (g.inf i).1) hi.1 lb
    refine ⟨⟨e2, by rw [e1]; cases i <;> decide, wf, wl⟩, sh', fun m s hm => ?_, fun s => rfl⟩
    refine op_at (fun s => rn cx (.a 32) false ((g.inf i).2.rb (g.inf i).1) ((rn cx t false (t.ll cx (g.inf i).1 ((g.inf i).2.lb (g.inf i).1)) s).oInf (cx.tx (cx.fn f)))) gd.ne (fun s => ?_) (fun m s => rn_f2 cx f t (.a 32) m s sh') m s
    have E := em (t.ll cx (g.inf i).1 ((g.inf i).2.lb (g.inf i).1)) s l2.1
    rw [l2.2, ← hl] at E
    show Em s (S3.tk (cx.tx 32) _) w'
    rw [A.txb, e1, A.txF, hw]
    cases i
    · show Em s (S3.tk [98] (if tightN [45] = true then S3.tk [45] _ else _)) (aheadS l 45 ++ [98])
      rw [if_pos tg1.1, ← ahead_eq gl (.inl rfl)]
      exact (E.em (em_tk [45] _) gl.ne cons_ne rfl).em (em_tk [98] _) (ne_app _ gl.ne) cons_ne (by rw [← List.append_assoc, gl_app _ cons_ne, show [45].getLastD 0 = 45 from rfl, bl_m _ (by decide)]; rfl)
    · show Em s (S3.tk [98] (if tightN wF = true then _ else ((S3.raw [32] _).raw wF).raw [32])) (l ++ [32, 102, 111, 111, 32, 98])
      rw [if_neg (by rw [tg1.2.1]; exact Bool.false_ne_true)]
      have X := E.rw (rw_sp wF _) gl.ne cons_ne
      have Y := X.em (em_tk [98] _) (ne_app _ gl.ne) cons_ne (z := [98]) (nob (l := 32) (gl_app _ cons_ne) (by decide))
      rw [List.append_assoc] at Y
      exact Y
theorem li_infR (i : Bool) (f : Nat) (hf : okF fs f (aF i)) {r w' : List Nat} (hr : r = held (decide ((g.inf i).2.rb (g.inf i).1 < tallD due)) w) (hw : w' = if i = true then [98, 32, 102, 111, 111, 32] ++ r else [98] ++ afterM r) :
    LI g fs (.f2 f (.a 32) t) w' false (some (1, g.inf i)) := by
  have gr : Good r := hr ▸ L.good.held _
  have lr : r.length ≤ w.length + 2 := hr ▸ held_len _ _
  have hi := G.hi i
  have lb := lb_le (g.inf i).2 _ hi.1
  have rb := rb_le (g.inf i).2 _ hi.1
  have ln := L.ln
  have ga := after_good gr
  have gd : Good w' := by
    subst hw
    cases i
    · exact Good.app cons_ne ga.ne (by decide) ga.lc
    · exact Good.app cons_ne gr.ne (by decide) gr.lc
  refine ⟨gd, ?_, fun p e => by cases e; exact hi, fun e => (nomatch e), fun cx gA gF A => ?_⟩
  · subst hw
    have := after_len r
    show _ ≤ 10 * (1 + t.sz + 1)
    cases i
    · show (98 :: afterM r).length ≤ _; rw [len2]; omega
    · show ([98, 32, 102, 111, 111, 32] ++ r).length ≤ _; rw [List.length_append]; show 6 + _ ≤ _; omega
  · obtain ⟨wf, sh, em, tl⟩ := L.at_ cx gA gF A
    obtain ⟨wl, shl, eml, tll⟩ := (li_leaf (g := g) (fs := fs)).at_ cx gA gF A
    obtain ⟨e1, e2⟩ := A.fn f _ hf
    have sh' : (T.f2 f (.a 32) t).shape cx = some (1, g.inf i) := by
      show (match cx.inf (cx.fn f) with | some p => some (1, p) | none => none) = _
      rw [e1, A.inf]
    refine ⟨⟨e2, by rw [e1]; cases i <;> decide, wl, wf⟩, sh', fun m s hm => ?_, fun s => rfl⟩
    refine op_at (fun s => rn cx t false ((g.inf i).2.rb (g.inf i).1) ((rn cx (.a 32) false ((T.a 32).ll cx (g.inf i).1 ((g.inf i).2.lb (g.inf i).1)) s).oInf (cx.tx (cx.fn f)))) gd.ne (fun s => ?_) (fun m s => rn_f2 cx f (.a 32) t m s sh') m s
    show Em s (rn cx t false _ ((S3.tk (cx.tx 32) s).oInf (cx.tx (cx.fn f)))) w'
    rw [A.txb, e1, A.txF, hw]
    cases i
    · show Em s (rn cx t false _ (if tightN [45] = true then S3.tk [45] _ else _)) ([98] ++ afterM r)
      rw [if_pos tg1.1, ← after_eq gr]
      have E := em ((g.inf false).2.rb (g.inf false).1) (S3.tk [45] (S3.tk [98] s)) rb.2
      rw [← hr] at E
      have X := (em_tk [98] s).em (em_tk [45] _) cons_ne cons_ne (z := [45]) (by rw [show [98].getLastD 0 = 98 from rfl, show [45].headD 0 = 45 from rfl, (bl_to 98 (by decide)).1]; rfl)
      exact X.em E cons_ne gr.ne rfl
    · show Em s (rn cx t false _ (if tightN wF = true then _ else ((S3.raw [32] _).raw wF).raw [32])) ([98, 32, 102, 111, 111, 32] ++ r)
      rw [if_neg (by rw [tg1.2.1]; exact Bool.false_ne_true)]
      have E := em ((g.inf true).2.rb (g.inf true).1) (((S3.raw [32] (S3.tk [98] s)).raw wF).raw [32]) rb.2
      rw [← hr] at E
      exact ((em_tk [98] s).rw (rw_sp wF _) cons_ne cons_ne).em E cons_ne gr.ne (nob (l := 32) rfl (by decide))
theorem li_pre (i : Bool) (f : Nat) (hf : okF fs f (aF i)) {r w' : List Nat} (hr : r = held (decide ((g.pre i).2.rb (g.pre i).1 < tallD due)) w) (hw : w' = if i = true then wF ++ [32] ++ r else if r.headD 0 = 40 then [45, 32] ++ r else afterM r) :
    LI g fs (.f1 f t) w' false (some (0, g.pre i)) := by
  have gr : Good r := hr ▸ L.good.held _
  have lr : r.length ≤ w.length + 2 := hr ▸ held_len _ _
  have hi := G.hp i
  have rb := rb_le (g.pre i).2 _ hi.1
  have ln := L.ln
  have key : i = false → w' = [45] ++ (bl [45] true (r.headD 0) ++ r) := by
    rintro rfl
    rw [hw, bl_mp _ gr.hd]
    show (if r.headD 0 = 40 then [45, 32] ++ r else afterM r) = _
    unfold afterM
    by_cases c : r.headD 0 = 40
    · rw [if_pos c, if_pos c]; rfl
    · rw [if_neg c, if_neg c]
      by_cases e : inMT (r.headD 0) = true
      · rw [if_pos e, if_pos e]; rfl
      · rw [if_neg e, if_neg e]; rfl
  have bll : (bl [45] true (r.headD 0)).length ≤ 1 := by
    unfold bl
    by_cases e : nsB [45] true (r.headD 0) = true
    · rw [if_pos e]; exact Nat.le_refl _
    · rw [if_neg e]; exact Nat.zero_le _
  have gd : Good w' := by
    cases i
    · rw [key rfl]; exact Good.app cons_ne (fun e => gr.ne (List.append_eq_nil_iff.mp e).2) (by decide) (by rw [gl_app _ gr.ne]; exact gr.lc)
    · rw [hw]; exact Good.app cons_ne gr.ne (by decide) gr.lc
  refine ⟨gd, ?_, fun p e => by cases e; exact hi, fun e => (nomatch e), fun cx gA gF A => ?_⟩
  · show _ ≤ 10 * (t.sz + 1)
    cases i
    · rw [key rfl, List.length_append, List.length_append]; show 1 + _ ≤ _; omega
    · rw [hw]; show (wF ++ [32] ++ r).length ≤ _; rw [List.length_append]; show 4 + _ ≤ _; omega
  · obtain ⟨wf, sh, em, tl⟩ := L.at_ cx gA gF A
    obtain ⟨e1, e2⟩ := A.fn f _ hf
    have sh' : (T.f1 f t).shape cx = some (0, g.pre i) := by
      show (match cx.pre (cx.fn f) with | some p => some (0, p) | none => _) = _
      rw [e1, A.pre]
    refine ⟨⟨e2, wf⟩, sh', fun m s hm => ?_, fun s => rfl⟩
    refine op_at (fun s => rn cx t false ((g.pre i).2.rb (g.pre i).1) (s.oPre (cx.tx (cx.fn f)))) gd.ne (fun s => ?_) (fun m s => rn_f1 cx f t m s sh') m s
    show Em s (rn cx t false _ (S3.oPre (cx.tx (cx.fn f)) s)) w'
    rw [e1, A.txF]
    have E := em ((g.pre i).2.rb (g.pre i).1) (S3.oPre (wSg i) s) rb.2
    rw [← hr] at E
    cases i
    · rw [key rfl]
      unfold S3.oPre at E ⊢
      rw [if_pos (show tightN (wSg false) = true from tg1.1)] at E ⊢
      have X := em_tk [45] s
      refine ⟨?_, ?_⟩
      · rw [E.1]
        show flat (S3.tk [45] s).1 ++ (bl [45] true (r.headD 0) ++ r) = flat s.1 ++ (bl s.2.1 s.2.2 45 ++ ([45] ++ (bl [45] true (r.headD 0) ++ r)))
        rw [X.1, List.append_assoc, List.append_assoc]; rfl
      · rw [E.2, ← List.append_assoc, gl_app _ gr.ne]
    · rw [hw]
      unfold S3.oPre at E ⊢
      have tf : ¬ tightN (wSg true) = true := by show ¬ tightN wF = true; rw [tg1.2.1]; exact Bool.false_ne_true
      rw [if_neg tf] at E ⊢
      exact ((em_tk wF s).rw (rw_raw [32] _) cons_ne cons_ne).em E cons_ne gr.ne (nob (l := 32) rfl (by decide))
theorem li_post (i : Bool) (f : Nat) (hf : okF fs f (aP i)) {l w' : List Nat} (hl : l = held (decide ((g.post i).2.lb (g.post i).1 < tallD due) || decide ((g.post i).1 ≤ reachD due)) w) (hw : w' = if i = true then l ++ [32] ++ wY else aheadS l 126) :
    LI g fs (.f1 f t) w' false (some (2, g.post i)) := by
  have gl : Good l := hl ▸ L.good.held _
  have ll : l.length ≤ w.length + 2 := hl ▸ held_len _ _
  have hi := G.hq i
  have lb := lb_le (g.post i).2 _ hi.1
  have ln := L.ln
  have gd : Good w' := by
    subst hw
    cases i
    · exact ⟨ahead_ne _ _, ahead_hd _ gl, by show (aheadS l 126).getLastD 0 ∈ Ls; rw [ahead_gl]; decide⟩
    · exact Good.app (ne_app _ gl.ne) cons_ne (by rw [hd_app _ gl.ne]; exact gl.hd) (by decide)
  refine ⟨gd, ?_, fun p e => by cases e; exact hi, fun e => (nomatch e), fun cx gA gF A => ?_⟩
  · subst hw
    have := ahead_len l 126
    show _ ≤ 10 * (t.sz + 1)
    cases i
    · show (aheadS l 126).length ≤ _; omega
    · show (l ++ [32] ++ wY).length ≤ _; rw [List.length_append, ap1]; show _ + 1 + 3 ≤ _; omega
  · obtain ⟨wf, sh, em, tl⟩ := L.at_ cx gA gF A
    obtain ⟨e1, e2⟩ := A.fn f _ hf
    have sh' : (T.f1 f t).shape cx = some (2, g.post i) := by
      show (match cx.pre (cx.fn f) with | some p => some (0, p) | none => (match cx.post (cx.fn f) with | some p => some (2, p) | none => none)) = _
      rw [e1, A.preP, A.post]
    have l2 := ll_ok sh L.du (g.post i).1 ((g.post i).2.lb (g.post i).1) hi.1 lb
    refine ⟨⟨e2, wf⟩, sh', fun m s hm => ?_, fun s => rfl⟩
    refine op_at (fun s => (rn cx t false (t.ll cx (g.post i).1 ((g.post i).2.lb (g.post i).1)) s).oPost (cx.tx (cx.fn f))) gd.ne (fun s => ?_) (fun m s => rn_f1 cx f t m s sh') m s
    have E := em (t.ll cx (g.post i).1 ((g.post i).2.lb (g.post i).1)) s l2.1
    rw [l2.2, ← hl] at E
    show Em s (S3.oPost (cx.tx (cx.fn f)) _) w'
    rw [e1, A.txP, hw]
    unfold S3.oPost
    cases i
    · rw [if_pos (show tightN (wPg false) = true from tg1.2.2.1)]
      show Em s (S3.tk [126] _) (aheadS l 126)
      rw [← ahead_eq gl (.inr rfl)]
      exact E.em (em_tk [126] _) gl.ne cons_ne rfl
    · have tf : ¬ tightN (wPg true) = true := by show ¬ tightN wY = true; rw [tg1.2.2.2]; exact Bool.false_ne_true
      rw [if_neg tf]
      exact (E.rw (rw_raw [32] _) gl.ne cons_ne).rw (rw_raw wY _) (ne_app _ gl.ne) cons_ne
omit G
theorem li_in (m : Int) (cx : Cx) (gA gF : Nat → Prop) (A : Ag g fs cx gA gF) (hm : 0 ≤ m) (s : S3) : Em s (rn cx t false m s) (held (decide (m < tallD due)) w) := (L.at_ cx gA gF A).2.2.1 m s hm
theorem li_fn (f : Nat) (hf : okF fs f 33) {r : List Nat} (hr : r = held (decide (999 < tallD due)) w) : LI g fs (.f1 f t) ([103, 40] ++ r ++ [41]) false none := by
  have gr : Good r := hr ▸ L.good.held _
  have lr : r.length ≤ w.length + 2 := hr ▸ held_len _ _
  have ln := L.ln
  refine ⟨Good.app (a := [103, 40] ++ r) cons_ne cons_ne (by show 103 ∈ Hs; decide) (by decide), ?_, fun p e => (nomatch e), fun e => (nomatch e), fun cx gA gF A => ?_⟩
  · rw [ap1, List.length_append]; show 2 + _ + 1 ≤ 10 * (t.sz + 1); omega
  · obtain ⟨wf, sh, em, tl⟩ := L.at_ cx gA gF A
    obtain ⟨e1, e2⟩ := A.fn f _ hf
    have n := A.no 33 (.inr (.inr rfl))
    have sh' : (T.f1 f t).shape cx = none := by
      show (match cx.pre (cx.fn f) with | some p => some (0, p) | none => (match cx.post (cx.fn f) with | some p => some (2, p) | none => none)) = _
      rw [e1, n.1, n.2.2]
    refine ⟨⟨e2, wf⟩, sh', fun m s hm => ?_, fun s => rfl⟩
    rw [rn_f1 cx f t m s sh', show decide (m < tallD none) = false from decide_eq_false (by show ¬ m < 0; omega)]
    show Em s ((rn cx t false 999 (S3.raw [40] (S3.tk (cx.tx (cx.fn f)) s))).raw [41]) ([103, 40] ++ r ++ [41])
    rw [e1, A.txg]
    have E := em 999 (S3.raw [40] (S3.tk [103] s)) (by decide)
    rw [← hr] at E
    exact (((em_tk [103] s).rw (rw_raw [40] _) cons_ne cons_ne).em E cons_ne gr.ne (nob (l := 40) rfl (by decide))).rw (rw_raw [41] _) cons_ne cons_ne
theorem li_cu : LI g fs (.cu t) ([123] ++ w ++ [125]) false none := by
  have ln := L.ln
  have gr := L.good
  refine ⟨Good.app (a := [123] ++ w) cons_ne cons_ne (by show 123 ∈ Hs; decide) (by decide), ?_, fun p e => (nomatch e), fun e => (nomatch e), fun cx gA gF A => ?_⟩
  · rw [ap1, List.length_append]; show 1 + _ + 1 ≤ 10 * (t.sz + 1); omega
  · obtain ⟨wf, sh, em, tl⟩ := L.at_ cx gA gF A
    refine ⟨wf, rfl, fun m s hm => ?_, fun s => rfl⟩
    rw [show decide (m < tallD none) = false from decide_eq_false (by show ¬ m < 0; omega)]
    show Em s ((rn cx t false 1201 (S3.tk [123] s)).raw [125]) ([123] ++ w ++ [125])
    have E := em 1201 (S3.tk [123] s) (by decide)
    rw [show decide (1201 < tallD due) = false from decide_eq_false (by have := tall_le L.du; omega)] at E
    exact ((em_tk [123] s).em E cons_ne gr.ne (nob (l := 123) rfl (by decide))).rw (rw_raw [125] _) cons_ne cons_ne
theorem dot_at (cx : Cx) (x y : T) (v z : List Nat) (hv : v ≠ []) (hz : z ≠ []) (H : ∀ s, Em s (rn cx x false 999 s) v) (R : ∀ s, Rw s (rn cx y true 999 s) z) : (∀ m s, 0 ≤ m → Em s (rn cx (.dot x y) false m s) (held (decide (m < tallD none)) ([91] ++ (v ++ z)))) ∧ TailOk cx (.dot x y) ([91] ++ (v ++ z)) true := by
  refine ⟨fun m s hm => ?_, fun s => ?_⟩
  · rw [show decide (m < tallD none) = false from decide_eq_false (by show ¬ m < 0; omega)]
    show Em s (rn cx y true 999 (rn cx x false 999 (S3.tk [91] s))) _
    have E := ((em_tk [91] s).em (H _) cons_ne hv (z := v) (nob (l := 91) rfl (by decide))).rw (R _) cons_ne hz
    rw [List.append_assoc] at E
    exact E
  · show Rw s (rn cx y true 999 (rn cx x false 999 (S3.raw [44] s))) ([44] ++ (v ++ z))
    have E := ((rw_raw [44] s).em (H _) hv (z := v) (nob (l := 44) rfl (by decide))).rw (R _) hz
    rw [List.append_assoc] at E
    exact E
theorem li_one {r : List Nat} (hr : r = held (decide (999 < tallD due)) w) : LI g fs (.dot t (.a 0)) ([91] ++ r ++ [93]) true none := by
  have gr : Good r := hr ▸ L.good.held _
  have lr : r.length ≤ w.length + 2 := hr ▸ held_len _ _
  have ln := L.ln
  refine ⟨Good.app (a := [91] ++ r) cons_ne cons_ne (by show 91 ∈ Hs; decide) (by decide), ?_, fun p e => (nomatch e), fun _ => ⟨r ++ [93], rfl, ne_app _ gr.ne, gl_app _ cons_ne⟩, fun cx gA gF A => ?_⟩
  · rw [ap1, List.length_append]; show 1 + _ + 1 ≤ 10 * (t.sz + 1 + 1); omega
  · obtain ⟨wf, sh, em, tl⟩ := L.at_ cx gA gF A
    have D := dot_at L cx t (.a 0) r [93] gr.ne cons_ne (fun s => hr ▸ em 999 s (by decide)) (fun s => rw_raw [93] s)
    rw [← List.append_assoc] at D
    exact ⟨⟨wf, A.ga.1, A.no 0 (.inl rfl)⟩, rfl, D.1, D.2⟩
theorem li_cell {r w' : List Nat} (hr : r = held (decide (999 < tallD due)) w) (hw : w' = if ls = true then [91, 98, 44] ++ w.drop 1 else [91, 98, 124] ++ r ++ [93]) : LI g fs (.dot (.a 32) t) w' true none := by
  have gr : Good r := hr ▸ L.good.held _
  have lr : r.length ≤ w.length + 2 := hr ▸ held_len _ _
  have ln := L.ln
  have lst := L.lst
  cases ls with
  | true =>
    obtain ⟨y, ey, ny, gy⟩ := lst rfl
    have hw : w' = [91] ++ ([98] ++ (44 :: w.drop 1)) := hw
    have gl : w'.getLastD 0 = 93 := by rw [hw, ey]; exact (gl_app [91, 98, 44] (b := y) ny).trans gy
    refine ⟨⟨by rw [hw]; exact cons_ne, by rw [hw]; show 91 ∈ Hs; decide, by rw [gl]; decide⟩, ?_, fun p e => (nomatch e), fun _ => ⟨_, hw, cons_ne, ?_⟩, fun cx gA gF A => ?_⟩
    · rw [hw, ey]
      rw [ey] at ln
      show y.length + 1 + 1 + 1 ≤ 10 * (1 + t.sz + 1)
      have ln : y.length + 1 ≤ 10 * t.sz := ln
      omega
    · rw [ey]; exact (gl_app [98, 44] (b := y) ny).trans gy
    · obtain ⟨wf, sh, em, tl⟩ := L.at_ cx gA gF A
      obtain ⟨wl, shl, eml, tll⟩ := (li_leaf (g := g) (fs := fs)).at_ cx gA gF A
      have D := dot_at L cx (.a 32) t [98] (44 :: w.drop 1) cons_ne cons_ne (fun s => eml 999 s (by decide)) tl
      rw [← hw] at D
      exact ⟨⟨wl, wf⟩, rfl, D.1, D.2⟩
  | false =>
    have hw : w' = [91] ++ ([98] ++ ([124] ++ r ++ [93])) := hw
    have gl : w'.getLastD 0 = 93 := by rw [hw]; exact gl_app ([91] ++ ([98] ++ ([124] ++ r))) (b := [93]) cons_ne
    refine ⟨⟨by rw [hw]; exact cons_ne, by rw [hw]; show 91 ∈ Hs; decide, by rw [gl]; decide⟩, ?_, fun p e => (nomatch e), fun _ => ⟨_, hw, cons_ne, gl_app ([98] ++ ([124] ++ r)) (b := [93]) cons_ne⟩, fun cx gA gF A => ?_⟩
    · rw [hw]
      show (r ++ [93]).length + 1 + 1 + 1 ≤ 10 * (1 + t.sz + 1)
      rw [ap1]; omega
    · obtain ⟨wf, sh, em, tl⟩ := L.at_ cx gA gF A
      obtain ⟨wl, shl, eml, tll⟩ := (li_leaf (g := g) (fs := fs)).at_ cx gA gF A
      have D := dot_at L cx (.a 32) t [98] ([124] ++ r ++ [93]) cons_ne cons_ne (fun s => eml 999 s (by decide)) (fun s => by
        rw [tl s]
        have E := em 999 (s.raw [124]) (by decide)
        rw [← hr] at E
        exact ((rw_raw [124] s).em E gr.ne (nob (l := 124) rfl (by decide))).rw (rw_raw [93] _) cons_ne)
      rw [← hw] at D
      exact ⟨⟨wl, wf⟩, rfl, D.1, D.2⟩
end
end Mn
end
section
namespace Mn
noncomputable def enumK {κ : Type} (k : Int) : List κ → List (κ × D)
  | [] => []
  | t :: r => (t, .int k) :: enumK (k + 1) r
section
variable {κ : Type} [DecidableEq κ]
theorem enum_len (l : List κ) : ∀ k : Int, (enumK k l).length = l.length := by
  induction l with
  | nil => intro _; rfl
  | cons x r ih => intro k; exact congrArg Nat.succ (ih _)
theorem enum_none {l : List κ} {x : κ} : ∀ k : Int, x ∉ l → aget (enumK k l) x = none := by
  induction l with
  | nil => intro _ _; rfl
  | cons y r ih =>
    intro k h
    show (if y = x then _ else aget (enumK (k + 1) r) x) = none
    rw [if_neg (fun e => h (by rw [e]; exact List.mem_cons_self)), ih _ (fun c => h (List.mem_cons_of_mem _ c))]
theorem enum_put {l : List κ} {x : κ} : ∀ k : Int, x ∉ l → aput (enumK k l) x (.int (k + l.length)) = enumK k (l ++ [x]) := by
  induction l with
  | nil => intro k _; show [(x, D.int (k + (0 : Nat)))] = [(x, .int k)]; rw [Int.natCast_zero, Int.add_zero]
  | cons y r ih =>
    intro k h
    show (if y = x then _ else (y, D.int k) :: aput (enumK (k + 1) r) x (.int (k + (r.length + 1 : Nat)))) = (y, .int k) :: enumK (k + 1) (r ++ [x])
    rw [if_neg (fun e => h (by rw [e]; exact List.mem_cons_self)), ← ih _ (fun c => h (List.mem_cons_of_mem _ c)), Int.natCast_succ, Int.add_right_comm, Int.add_assoc]
theorem enum_get {l : List κ} {x : κ} : ∀ (k : Int) (i : Nat), l.Nodup → l[i]? = some x → aget (enumK k l) x = some (.int (k + i)) := by
  induction l with
  | nil => intro _ _ _ h; exact nomatch h
  | cons y r ih =>
    intro k i hn h
    show (if y = x then some (D.int k) else aget (enumK (k + 1) r) x) = _
    cases i with
    | zero =>
      cases h
      rw [if_pos rfl, Int.natCast_zero, Int.add_zero]
    | succ i =>
      have hm : x ∈ r := List.mem_of_getElem? h
      rw [if_neg (fun e => (List.nodup_cons.mp hn).1 (by rw [e]; exact hm)), ih _ i (List.nodup_cons.mp hn).2 h, Int.natCast_succ, Int.add_comm i 1, ← Int.add_assoc]
end
noncomputable def oS (l : List (List Nat)) : AO := match l with | [] => .d0 | x :: r => .dS (enumK 0 (x :: r))
noncomputable def oP (l : List (List Int)) : AO := match l with | [] => .d0 | x :: r => .dP (enumK 0 (x :: r))
theorem oS_none {l : List (List Nat)} {x : List Nat} (h : x ∉ l) : DG (oS l) (.str x) none := by
  cases l with
  | nil => exact .s0 _
  | cons y r => have := DG.s (enumK 0 (y :: r)) x; rw [enum_none 0 h] at this; exact this
theorem oS_put {l : List (List Nat)} {x : List Nat} (h : x ∉ l) (hl : l.length ≤ big) : DS (oS l) (.str x) (.int l.length) (oS (l ++ [x])) := by
  cases l with
  | nil => exact .s0 _ _
  | cons y r =>
    have := DS.s (es := enumK 0 (y :: r)) x (.int ((y :: r).length : Nat)) (by rw [enum_len]; exact hl)
    rw [← Int.zero_add (((y :: r).length : Nat) : Int), enum_put 0 h, Int.zero_add] at this
    exact this
theorem oS_get {l : List (List Nat)} {x : List Nat} {i : Nat} (hn : l.Nodup) (h : l[i]? = some x) : DG (oS l) (.str x) (some (.int i)) := by
  cases l with
  | nil => exact nomatch h
  | cons y r => have := DG.s (enumK 0 (y :: r)) x; rw [enum_get 0 i hn h, Int.zero_add] at this; exact this
noncomputable def pr (a r : Int) : List Int := [a, r]
theorem oP_none {l : List (List Int)} {a r : Int} (h : pr a r ∉ l) : DG (oP l) (.tup [.int a, .int r]) none := by
  cases l with
  | nil => exact .t0 [a, r]
  | cons y s => have := DG.t (enumK 0 (y :: s)) (pr a r); rw [enum_none 0 h] at this; exact this
theorem oP_put {l : List (List Int)} {a r : Int} (h : pr a r ∉ l) (hl : l.length ≤ big) : DS (oP l) (.tup [.int a, .int r]) (.int l.length) (oP (l ++ [pr a r])) := by
  cases l with
  | nil => exact .t0 (pr a r) _
  | cons y s =>
    have := DS.t (es := enumK 0 (y :: s)) (pr a r) (.int ((y :: s).length : Nat)) (by rw [enum_len]; exact hl)
    rw [← Int.zero_add (((y :: s).length : Nat) : Int), enum_put 0 h, Int.zero_add] at this
    exact this
theorem oP_get {l : List (List Int)} {a r : Int} {i : Nat} (hn : l.Nodup) (h : l[i]? = some (pr a r)) : DG (oP l) (.tup [.int a, .int r]) (some (.int i)) := by
  cases l with
  | nil => exact nomatch h
  | cons y s => have := DG.t (enumK 0 (y :: s)) (pr a r); rw [enum_get 0 i hn h, Int.zero_add] at this; exact this
theorem nodup_mid {α : Type} {a : List α} {x : α} {r : List α} (h : (a ++ x :: r).Nodup) : x ∉ a ∧ ((a ++ [x]) ++ r).Nodup :=
  ⟨fun c => (List.nodup_append.mp h).2.2 _ c _ List.mem_cons_self rfl, by rw [List.append_assoc]; exact h⟩
noncomputable def fD : List Int → D
  | [a, r] => .tup [.int a, .int r]
  | _ => .non
noncomputable def yst (row : List D) (tx : List (List Nat)) (fs : List (List Int)) (rest : List AO) : List AO := sst row (tx.map .str) (oS tx) (fs.map fD) (oP fs) rest
noncomputable def aNames : List String := ["[]", ".", "{}", "-", "+", "*", "/", ",", "|", ";", "->", "\\+", ":-", "?-", "-->", "!", "true", "fail", "false", "call", "=", "^", "error", "", "end_of_file", "system", "$VAR", "catch", "throw"]
noncomputable def tx0 : List (List Nat) := aNames.map codes
noncomputable def fPr : List (Nat × Int) := [(1, 2), (7, 2), (9, 2), (10, 2), (11, 1), (12, 2), (12, 1), (13, 1), (14, 2), (2, 1), (20, 2), (21, 2), (3, 1), (3, 2), (4, 2), (6, 2), (22, 2), (26, 1), (27, 3), (28, 1), (15, 0), (16, 0), (17, 0), (18, 0), (19, 1), (19, 2), (19, 3), (19, 4), (19, 5), (19, 6), (19, 7), (19, 8)]
noncomputable def fs0 : List (List Int) := fPr.map fun p => [p.1, p.2]
noncomputable def fRow (p : Nat × Int) : D := .tup [.str (tx0.getD p.1 []), .int p.2]
theorem tx0_nd : tx0.Nodup := by
  have : decide tx0.Nodup = true := by kernel_rfl
  exact of_decide_eq_true this
theorem fs0_nd : fs0.Nodup := by
  have : decide fs0.Nodup = true := by kernel_rfl
  exact of_decide_eq_true this
theorem map_ap1 {α β : Type} (f : α → β) (l : List α) (x : α) : (l ++ [x]).map f = l.map f ++ [f x] := List.map_append
variable {CW NW : Nat → CallT} (K : Wk CW NW)
include K
theorem y_atom_new (n : Nat) (row : List D) (tx : List (List Nat)) (fs : List (List Int)) (rest : List AO) (s : List Nat) (h : s ∉ tx) (hl : tx.length ≤ big) : RC (CW (n + 1)) 3 [.ob 1, .d (.str s)] (yst row tx fs rest) (.d (.int tx.length)) (yst row (tx ++ [s]) fs rest) := by
  have hlm : (tx.map D.str).length = tx.length := List.length_map _
  have := c_atom_new K row (tx.map .str) (oS tx) (fs.map fD) (oP fs) rest n s (oS (tx ++ [s])) (oS_none h) (by rw [hlm]; exact oS_put h hl) (by rw [hlm]; exact hl)
  unfold yst
  rw [hlm] at this
  rw [map_ap1]
  exact this
theorem y_atom_old (n : Nat) (row : List D) (tx : List (List Nat)) (fs : List (List Int)) (rest : List AO) (s : List Nat) (i : Nat) (hn : tx.Nodup) (h : tx[i]? = some s) : RC (CW (n + 1)) 3 [.ob 1, .d (.str s)] (yst row tx fs rest) (.d (.int i)) (yst row tx fs rest) :=
  c_atom_old K row (tx.map .str) (oS tx) (fs.map fD) (oP fs) rest n s i (oS_get hn h)
theorem y_functor (n : Nat) (row : List D) (tx : List (List Nat)) (fs : List (List Int)) (rest : List AO) (a r : Int) (hn : fs.Nodup) (hl : fs.length ≤ big) :
    ∃ (f : Nat) (fs' : List (List Int)), RC (CW (n + 1)) 5 [.ob 1, .d (.int a), .d (.int r)] (yst row tx fs rest) (.d (.int f)) (yst row tx fs' rest) ∧ fs'.Nodup ∧ fs'.length ≤ fs.length + 1 ∧ (∃ e, fs' = fs ++ e ∧ ∀ y ∈ e, y = pr a r) ∧ fs'[f]? = some [a, r] ∧ (pr a r ∉ fs → fs' = fs ++ [pr a r]) := by
  by_cases h : pr a r ∈ fs
  · obtain ⟨f, hf⟩ := List.mem_iff_getElem?.mp h
    exact ⟨f, fs, c_functor_old K row (tx.map .str) (oS tx) (fs.map fD) (oP fs) rest n a r f (oP_get hn hf), hn, Nat.le_succ _, ⟨[], (List.append_nil _).symm, fun _ h => (nomatch h)⟩, hf, fun c => absurd h c⟩
  · have hlm : (fs.map fD).length = fs.length := List.length_map _
    have := c_functor_new K row (tx.map .str) (oS tx) (fs.map fD) (oP fs) rest n a r (oP (fs ++ [pr a r])) (oP_none h) (by rw [hlm]; exact oP_put h hl) (by rw [hlm]; exact hl)
    rw [hlm] at this
    refine ⟨fs.length, fs ++ [pr a r], ?_, List.nodup_append.mpr ⟨hn, List.nodup_cons.mpr ⟨List.not_mem_nil, List.nodup_nil⟩, fun x hx y hy e => h (by rw [← List.mem_singleton.mp hy, ← e]; exact hx)⟩, Nat.le_of_eq (ap1 _ _), ⟨_, rfl, fun _ h => List.mem_singleton.mp h⟩, List.getElem?_concat_length, fun _ => rfl⟩
    unfold yst
    rw [map_ap1]
    exact this
theorem c_func (n : Nat) {st st1 st2 : List AO} {s : List Nat} {a r : Int} {v : AV} {fl : List (Nat × AV)} (hi : st[1]? = some (.ins 0 fl)) (h1 : RC (CW (n + 1)) 3 [.ob 1, .d (.str s)] st (.d (.int a)) st1) (h2 : RC (CW (n + 1)) 5 [.ob 1, .d (.int a), .d (.int r)] st1 v st2) : RC (CW (n + 2)) 6 [.ob 1, .d (.str s), .d (.int r)] st v st2 := by
  intro Q q
  refine K.c (fi := fi6) (ir := ir6) rfl rfl rfl ?_
  show (match insOf st (.ob 1) with | some (k, _) => (match mthOf P0 k 2 with | some f => _ | none => False) | none => False)
  have e : insOf st (.ob 1) = some (0, fl) := by
    show (match st[1]? with | some (.ins c fs) => some (c, fs) | _ => none) = _
    rw [hi]
  rw [e]
  show (match insOf st (.ob 1) with | some (k, _) => (match mthOf P0 k 0 with | some f => _ | none => False) | none => False)
  rw [e]
  exact h1 _ (h2 _ q)
theorem c_fixed0 (n : Nat) (st : List AO) : RC (CW (n + 1)) 0 [] st (.d (.tup (tx0.map .str))) st := by
  intro Q q
  refine K.c (fi := fi0) (ir := ir0) rfl rfl rfl ?_
  exact an (by decide) q
theorem c_fixed1 (n : Nat) (st : List AO) : RC (CW (n + 1)) 1 [] st (.d (.tup (fPr.map fRow))) st := by
  intro Q q
  refine K.c (fi := fi1) (ir := ir1) rfl rfl rfl ?_
  iterate 32 refine an bg2 ?_
  exact an (by decide) q
theorem atoms_loop (n : Nat) (row : List D) (p : Pos) (x2 : Option AV) (Q : Fl → Vars → List AO → Prop) : ∀ (l acc : List (List Nat)) (x : Option AV), (acc ++ l).Nodup → acc.length + l.length ≤ big → (∀ y, Q .nx [some (.ob 1), y, x2] (yst row (acc ++ l) [] [])) →
    loopF (.nm 1 p) (fun vs st Q => wpSs P0 (CW (n + 1)) (NW (n + 1)) (forB ir2 4) vs st Q) (l.map .str) [some (.ob 1), x, x2] (yst row acc [] []) Q := by
  intro l
  induction l with
  | nil => intro acc x _ _ q; rw [List.append_nil] at q; exact q x
  | cons s l ih =>
    intro acc x hn hl q
    obtain ⟨h1, h2⟩ := nodup_mid hn
    rw [List.length_cons] at hl
    refine y_atom_new K n row acc [] [] s h1 (by omega) _ ?_
    refine ih (acc ++ [s]) _ h2 (by rw [ap1]; omega) ?_
    rw [List.append_assoc]; exact q
theorem funcs_loop (n : Nat) (row : List D) (p : Pos) (x1 : Option AV) (Q : Fl → Vars → List AO → Prop) : ∀ (l acc : List (Nat × Int)) (x : Option AV), ((acc ++ l).map fun p => [(p.1 : Int), p.2]).Nodup → acc.length + l.length ≤ big → l.all (fun p => decide (p.1 < 29)) = true → (∀ y, Q .nx [some (.ob 1), x1, y] (yst row tx0 ((acc ++ l).map fun p => [(p.1 : Int), p.2]) [])) →
    loopF (.nm 2 p) (fun vs st Q => wpSs P0 (CW (n + 2)) (NW (n + 2)) (forB ir2 5) vs st Q) (l.map fRow) [some (.ob 1), x1, x] (yst row tx0 (acc.map fun p => [(p.1 : Int), p.2]) []) Q := by
  intro l
  induction l with
  | nil => intro acc x _ _ _ q; rw [List.append_nil] at q; exact q x
  | cons s l ih =>
    intro acc x hn hl ha q
    rw [List.all_cons, Bool.and_eq_true] at ha
    have hn' := hn
    rw [List.map_append, List.map_cons] at hn'
    obtain ⟨h1, _⟩ := nodup_mid hn'
    rw [List.length_cons] at hl
    have hs : tx0[s.1]? = some (tx0.getD s.1 []) := by
      rw [List.getD_eq_getElem?_getD]
      cases e : tx0[s.1]? with
      | some x => rfl
      | none => exact absurd (List.getElem?_eq_none_iff.mp e) (Nat.not_le.mpr (of_decide_eq_true ha.1))
    obtain ⟨f, fs', e, hn2, _, _, _, e2⟩ := y_functor K n row tx0 (acc.map fun p => [(p.1 : Int), p.2]) [] s.1 s.2 ((List.nodup_append.mp hn').1) (by rw [List.length_map]; omega)
    have e2 := e2 h1
    subst e2
    refine exI ix0 (exI ix1 ?_)
    refine c_func K n rfl (y_atom_old K n row tx0 _ [] _ s.1 tx0_nd hs) e _ ?_
    have key := ih (acc ++ [s]) (some (.d (fRow s))) (by rw [List.append_assoc]; exact hn) (by rw [ap1]; omega) ha.2 (by rw [List.append_assoc]; exact q)
    rw [map_ap1] at key
    exact key
theorem c_symbols (n : Nat) (row : List D) {Q : AV → List AO → Prop} (q : Q (.ob 1) (yst row tx0 fs0 [])) : NW (n + 4) 0 [] [.lst row] Q := by
  refine K.n (c := 0) (f := 2) (by decide) rfl ?_
  refine K.c (fi := fi2) (ir := ir2) rfl rfl rfl ?_
  refine ex3 1 0 _ ⟨rfl, rfl, by exact Nat.le_of_ble_eq_true rfl, ?_⟩
  refine ex3 1 0 _ ⟨rfl, rfl, by exact Nat.le_of_ble_eq_true rfl, ?_⟩
  refine ex3 1 0 _ ⟨rfl, rfl, by exact Nat.le_of_ble_eq_true rfl, ?_⟩
  refine ex3 1 0 _ ⟨rfl, rfl, by exact Nat.le_of_ble_eq_true rfl, ?_⟩
  refine c_fixed0 K (n + 1) _ _ ?_
  refine exF (.tup (by decide)) ?_
  refine atoms_loop K (n + 1) row _ _ _ tx0 [] _ tx0_nd (by decide) fun y => ?_
  refine c_fixed1 K (n + 1) _ _ ?_
  refine exF (.tup (by decide)) ?_
  refine funcs_loop K n row _ _ _ fPr [] _ fs0_nd (by decide) (by decide) fun y => ?_
  exact ⟨rfl, q⟩
end Mn
end
section
namespace Mn
noncomputable def bY (row : List D) (tx : List (List Nat)) (fs : List (List Int)) (pre inf post : AO) : Bs := ⟨row, tx.map .str, oS tx, fs.map fD, oP fs, pre, inf, post⟩
inductive Cl where | pre | inf | post
noncomputable def Kd.cl : Kd → Cl
  | .xfx => .inf | .xfy => .inf | .yfx => .inf | .fy => .pre | .fx => .pre | .yf => .post | .xf => .post
noncomputable def Cl.ix : Cl → Nat | .pre => 7 | .inf => 8 | .post => 9
noncomputable def Cl.s : Cl → List Nat | .pre => sPre | .inf => sInf | .post => sPost
noncomputable def Bs.tab (b : Bs) : Cl → AO | .pre => b.pre | .inf => b.inf | .post => b.post
noncomputable def Bs.setTab (b : Bs) (o : AO) : Cl → Bs | .pre => { b with pre := o } | .inf => { b with inf := o } | .post => { b with post := o }
theorem ieS (x : List Nat) (l : List (List Nat)) : IE (.str x) (l.map .str) (l.any (· == x)) := by
  induction l with
  | nil => exact .nil
  | cons y r ih => exact .cons (.flat (.ss y x)) ih
theorem inK {st : List AO} {x : List Nat} {l : List (List Nat)} {v : D} {b : Bool} (h : v = .tup (l.map .str)) (e : l.any (· == x) = b) : CA st .In (.d (.str x)) (.d v) b := by
  subst h; rw [← e]; exact .d (.inT (ieS x l))
theorem inLs {st : List AO} {x : List Nat} {l : List (List Nat)} {v : D} {b : Bool} (h : v = .lst (l.map .str)) (e : l.any (· == x) = b) : CA st .In (.d (.str x)) (.d v) b := by
  subst h; rw [← e]; exact .d (.inL (ieS x l))
variable {CW NW : Nat → CallT} (K : Wk CW NW)
include K
theorem c_fixity (n : Nat) (k : Kd) (st : List AO) : RC (CW (n + 1)) 18 [.d (.str k.s)] st (.d (.str k.cl.s)) st := by
  intro Q q
  obtain ⟨k1, k2, k3, k4, k5, k6, k7⟩ := kd_codes
  refine K.c (fi := fi18) (ir := ir18) rfl rfl rfl ?_
  have t1 : ∀ b, List.any [Kd.fx.s, Kd.fy.s] (· == k.s) = b → CA st .In (.d (.str k.s)) (.d (.tup [.str (codes "fx"), .str (codes "fy")])) b := fun b e => inK (l := [Kd.fx.s, Kd.fy.s]) (by rw [k4, k5]; rfl) e
  have t2 : ∀ b, List.any [Kd.xfx.s, Kd.xfy.s, Kd.yfx.s] (· == k.s) = b → CA st .In (.d (.str k.s)) (.d (.tup [.str (codes "xfx"), .str (codes "xfy"), .str (codes "yfx")])) b := fun b e => inK (l := [Kd.xfx.s, Kd.xfy.s, Kd.yfx.s]) (by rw [k1, k2, k3]; rfl) e
  have t3 : ∀ b, List.any [Kd.xf.s, Kd.yf.s] (· == k.s) = b → CA st .In (.d (.str k.s)) (.d (.tup [.str (codes "xf"), .str (codes "yf")])) b := fun b e => inK (l := [Kd.xf.s, Kd.yf.s]) (by rw [k6, k7]; rfl) e
  obtain ⟨c1, c2, c3⟩ := cI
  cases k with
  | fx => refine exC (t1 true rfl) ?_; show Q (.d (.str (codes "prefix"))) st; rw [c2]; exact q
  | fy => refine exC (t1 true rfl) ?_; show Q (.d (.str (codes "prefix"))) st; rw [c2]; exact q
  | xfx => refine exC (t1 false rfl) (exC (t2 true rfl) ?_); show Q (.d (.str (codes "infix"))) st; rw [c1]; exact q
  | xfy => refine exC (t1 false rfl) (exC (t2 true rfl) ?_); show Q (.d (.str (codes "infix"))) st; rw [c1]; exact q
  | yfx => refine exC (t1 false rfl) (exC (t2 true rfl) ?_); show Q (.d (.str (codes "infix"))) st; rw [c1]; exact q
  | yf => refine exC (t1 false rfl) (exC (t2 false rfl) (exC (t3 true rfl) ?_)); show Q (.d (.str (codes "postfix"))) st; rw [c3]; exact q
  | xf => refine exC (t1 false rfl) (exC (t2 false rfl) (exC (t3 true rfl) ?_)); show Q (.d (.str (codes "postfix"))) st; rw [c3]; exact q
theorem c_table_of (n : Nat) (b : Bs) (rest : List AO) (k : Kd) : RC (CW (n + 2)) 25 [.ob 6, .d (.str k.s)] (bst b rest) (.ob k.cl.ix) (bst b rest) := by
  intro Q q
  refine K.c (fi := fi25) (ir := ir25) rfl rfl rfl ?_
  refine c_fixity K n k _ _ ?_
  refine exC (eqL cI.2.1) ?_
  cases e : k.cl with
  | pre => rw [e] at q; exact q
  | inf => rw [e] at q; exact exC (eqL cI.1) q
  | post => rw [e] at q; exact exC (eqL cI.1) q
theorem c_add (n : Nat) (b : Bs) (rest : List AO) (k : Kd) (s : List Nat) (hs : s = k.s) (h : Int) (hh : 0 < h) (a : Int) (o : AO) (ho : DS (b.tab k.cl) (.int a) (.tup [.int h, .str k.s]) o) :
    RC (CW (n + 3)) 26 [.ob 6, .d (.int h), .d (.str s), .d (.int a)] (bst b rest) (.d .non) (bst (b.setTab o k.cl) rest) := by
  intro Q q
  subst hs
  refine K.c (fi := fi26) (ir := ir26) rfl rfl rfl ?_
  refine c_table_of K n b rest k _ ?_
  refine exC (.d (.gt _ _)) (ifT (decide_eq_true hh) (an bg2 ?_))
  refine ⟨k.cl.ix, .int a, .tup [.int h, .str k.s], b.tab k.cl, o, rfl, rfl, rfl, ?_, ho, ?_⟩
  · cases k.cl <;> rfl
  · cases e : k.cl <;> (rw [e] at q; exact q)
theorem c_tab (n : Nat) (row : List D) (tx : List (List Nat)) (fs : List (List Int)) {Q : AV → List AO → Prop} (q : Q (.ob 6) (bst (bY row tx fs .d0 (.dI [(7, .tup [.int 1000, .str Kd.xfy.s])]) .d0) [])) : NW (n + 5) 1 [.ob 1, .d (.boo false)] (yst row tx fs []) Q := by
  refine K.n (c := 1) (f := 20) (by decide) rfl ?_
  refine K.c (fi := fi20) (ir := ir20) rfl rfl rfl ?_
  refine ex3 6 1 _ ⟨rfl, rfl, by exact Nat.le_of_ble_eq_true rfl, ?_⟩
  refine ex3 6 1 _ ⟨rfl, rfl, by exact Nat.le_of_ble_eq_true rfl, ?_⟩
  refine ex3 6 1 _ ⟨rfl, rfl, by exact Nat.le_of_ble_eq_true rfl, ?_⟩
  refine ex3 6 1 _ ⟨rfl, rfl, by exact Nat.le_of_ble_eq_true rfl, ?_⟩
  refine c_add K n (bY row tx fs .d0 .d0 .d0) [] .xfy _ kd_codes.2.1 1000 (by decide) 7 _ (.i0 _ _) _ ?_
  exact ⟨rfl, q⟩
omit K in
theorem set10 {C N : CallT} {b : Bs} {fs : List (Nat × AV)} {rest rest' : List AO} {f : Nat} {x : X} {p0 pt p : Pos} {r : Ss} {vs : Vars} {v : AV} {Q : Fl → Vars → List AO → Prop} (h0 : vs.getD 0 none = some (.ob 10)) (hx : ∀ Q', Q' v (bst b (.ins 2 fs :: rest')) → wpX P0 C N x false vs (bst b (.ins 2 fs :: rest)) Q') (hl : fs.length ≤ 900)
    (k : wpSs P0 C N r vs (bst b (.ins 2 (fput fs f v) :: rest')) Q) : wpSs P0 C N (.cons (.asgA (.loc 0 p0) f x pt p) r) vs (bst b (.ins 2 fs :: rest)) Q := by
  refine hx _ ?_
  show (match vs.getD 0 none with | some (.own l) => _ | some v => _ | none => False)
  rw [h0]
  exact ⟨10, 2, fs, rfl, rfl, hl, k⟩
theorem c_writer (n : Nat) (b : Bs) {Q : AV → List AO → Prop} (q : Q (.ob 10) (ist b)) : NW (n + 2) 2 [.ob 1, .ob 6] (bst b []) Q := by
  refine K.n (c := 2) (f := 30) (by decide) rfl ?_
  refine K.c (fi := fi30) (ir := ir30) rfl rfl rfl ?_
  show wpSs P0 (CW n) (NW n) ir30 [some (.ob 10), some (.ob 1), some (.ob 6), some (.d (.boo true)), some (.d (.boo false)), some (.d (.boo false)), some (.d .non), none, none] (bst b [.ins 2 []]) (retQ fun v st' => v = .d .non ∧ Q (.ob 10) st')
  iterate 7 refine set10 rfl (fun _ q => q) (by exact Nat.le_of_ble_eq_true rfl) ?_
  refine exC (.d (.isN _)) ?_
  show wpSs P0 (CW n) (NW n) (dropB 8 ir30) [some (.ob 10), some (.ob 1), some (.ob 6), some (.d (.boo true)), some (.d (.boo false)), some (.d (.boo false)), some (.d .non), none, none] (bst b (.ins 2 [(4, .ob 1), (8, .ob 6), (9, .d (.boo true)), (10, .d (.boo false)), (11, .d (.boo false)), (12, .ob 11), (13, .ob 12)] :: [.d0, .d0])) (retQ fun v st' => v = .d .non ∧ Q (.ob 10) st')
  iterate 4 refine set10 rfl (fun _ q => q) (by exact Nat.le_of_ble_eq_true rfl) ?_
  rw [codes1.2.2.2.2]
  exact ⟨rfl, q⟩
noncomputable def AllN (l : List D) : Prop := ∀ d ∈ l, ∃ i, d = .int i
structure Rk (row : List D) : Prop where
  a : AllN row
  l : row.length ≤ 90
theorem c_next (n : Nat) (m : Int) (hm : 0 < m) (row : List D) (hr : Rk row) (rest : List AO) :
    ∃ r row', RC (CW (n + 1)) 48 [.ob 0, .d (.int m)] (.lst row :: rest) (.d (.int r)) (.lst row' :: rest) ∧ 0 ≤ r ∧ r < m ∧ Rk row' := by
  have hb := big_eq
  rcases List.eq_nil_or_concat row with rfl | ⟨l, x, rfl⟩
  · refine ⟨0, [], fun Q q => ?_, by decide, hm, hr⟩
    refine K.c (fi := fi48) (ir := ir48) rfl rfl rfl ?_
    exact exB (.lenO (l := []) rfl (by decide)) (exC (.d (.gt _ _)) q)
  · rw [List.concat_eq_append] at hr ⊢
    obtain ⟨i, rfl⟩ := hr.a x (List.mem_append_right _ List.mem_cons_self)
    have hl := hr.l
    rw [ap1] at hl
    refine ⟨i.fmod m, l, fun Q q => ?_, Int.fmod_nonneg_of_pos _ hm, Int.fmod_lt_of_pos _ hm, fun d hd => hr.a d (List.mem_append_left _ hd), by omega⟩
    refine K.c (fi := fi48) (ir := ir48) rfl rfl rfl ?_
    refine exB (.lenO (l := l ++ [.int i]) rfl (by rw [ap1]; omega)) (exC (.d (.gt _ _)) ?_)
    refine ifT (decide_eq_true (by rw [ap1]; omega)) ?_
    refine an (.lst rfl rfl) (exM (.pop (l := l ++ [.int i]) (x := .int i) rfl (by rw [ap1]; omega) List.getLast?_concat) ?_)
    refine exO (.mod (by omega)) ?_
    rw [List.dropLast_concat]
    exact q
theorem c_held (n : Nat) (s : List Nat) (c : Bool) (hs : s.length ≤ 100000) (st : List AO) : RC (CW (n + 1)) 49 [.d (.str s), .d (.boo c)] st (.d (.str (held c s))) st := by
  intro Q q
  refine K.c (fi := fi49) (ir := ir49) rfl rfl rfl ?_
  have hb := big_eq
  cases c
  · exact q
  · refine exO (.addS (x := codes "(") (by rw [codes1.2.1]; show 1 + _ ≤ big; omega)) ?_
    rw [codes1.2.1]
    refine exO (.addS (y := codes ")") (by rw [cR.2.2.1, List.length_append]; show 1 + _ + 1 ≤ big; omega)) ?_
    rw [cR.2.2.1]
    exact q
end Mn
end
section
namespace Mn
theorem cFY : codes "foo" = wF ∧ codes "yes" = wY ∧ codes "-~" = [45, 126] := by
  refine ⟨?_, ?_, ?_⟩ <;> kernel_rfl
theorem cMT (c : Nat) : (codes "-~").contains c = inMT c := by
  rw [cFY.2.2]
  show (c == 45 || (c == 126 || false)) = _
  rw [Bool.or_false]; rfl
noncomputable def isW (w : List Nat) : Bool := [wF, wY].any (· == w)
theorem inFY {st : List AO} {w : List Nat} {b : Bool} (h : isW w = b) : CA st .In (.d (.str w)) (.d (.lst [.str (codes "foo"), .str (codes "yes")])) b := inLs (l := [wF, wY]) (by rw [cFY.1, cFY.2.1]; rfl) h
theorem ixL {st : List AO} {u : List Nat} {c : Nat} : IdxR st (.d (.str (u ++ [c]))) (.d (.int (-1))) (.d (.str [c])) := by
  refine .str (c := c) (by decide) ?_
  have h : pyIdx (-1) (u ++ [c]).length = some u.length := by
    rw [ap1]
    show (if (if (-1 : Int) < 0 then (-1 : Int) + ((u.length + 1 : Nat) : Int) else _) ≥ 0 && _ then _ else none) = _
    rw [if_pos (show (-1 : Int) < 0 by decide)]
    have e : (-1 : Int) + ((u.length + 1 : Nat) : Int) = (u.length : Nat) := by omega
    rw [e, if_pos (by rw [Bool.and_eq_true]; exact ⟨decide_eq_true (Int.natCast_nonneg _), decide_eq_true (by omega)⟩)]; rfl
  rw [h]
  exact List.getElem?_concat_length
variable {CW NW : Nat → CallT} (K : Wk CW NW)
include K
theorem c_after_f (n : Nat) (s : List Nat) (hs : s.length ≤ 100000) (st : List AO) : RC (CW (n + 1)) 50 [.d (.str wF), .d (.str s)] st (.d (.str (wF ++ [32] ++ s))) st := by
  intro Q q
  refine K.c (fi := fi50) (ir := ir50) rfl rfl rfl ?_
  have hb := big_eq
  refine an bg2 (exC (inFY (b := true) (by decide)) ?_)
  refine exO (.addS (y := codes " ") (by rw [codes1.1]; decide)) ?_
  rw [codes1.1]
  refine exO (.addS (by show 4 + _ ≤ big; omega)) q
theorem c_after_g (n : Nat) (W : List Nat) (hW : isW W = false) (x : Nat) (s : List Nat) (hs : W.length + s.length ≤ 200000) (st : List AO) : RC (CW (n + 1)) 50 [.d (.str W), .d (.str (x :: s))] st (.d (.str (W ++ if inMT x = true then 32 :: x :: s else x :: s))) st := by
  intro Q q
  refine K.c (fi := fi50) (ir := ir50) rfl rfl rfl ?_
  have hb := big_eq
  refine an bg2 (exC (inFY hW) ?_)
  refine exI ixS (exC (.d (.inS _ _)) ?_)
  rw [cMT]
  refine ifC (fun e => ?_) (fun e => ?_)
  · rw [if_pos e] at q
    refine exO (.addS (x := codes " ") (by rw [codes1.1]; show 1 + (s.length + 1) ≤ big; omega)) ?_
    rw [codes1.1]
    exact exO (.addS (by show _ + (s.length + 1 + 1) ≤ big; omega)) q
  · rw [if_neg e] at q
    exact exO (.addS (by show _ + (s.length + 1) ≤ big; omega)) q
theorem c_after (n : Nat) (S : List Nat) (hne : S ≠ []) (hs : S.length ≤ 100000) (st : List AO) : RC (CW (n + 1)) 50 [.d (.str [45]), .d (.str S)] st (.d (.str (afterM S))) st := by
  cases S with
  | nil => exact absurd rfl hne
  | cons x s =>
    have h := c_after_g K n [45] (by decide) x s (by rw [len2] at hs; show 1 + _ ≤ _; omega) st
    have e : [45] ++ (if inMT x = true then 32 :: x :: s else x :: s) = afterM (x :: s) := by
      unfold afterM
      by_cases e : inMT x = true
      · rw [if_pos e]; exact (if_pos (show inMT ((x :: s).headD 0) = true from e)).symm
      · rw [if_neg e]; exact (if_neg (show ¬ inMT ((x :: s).headD 0) = true from e)).symm
    rw [e] at h
    exact h
theorem c_ahead_y (n : Nat) (s : List Nat) (hs : s.length ≤ 100000) (st : List AO) : RC (CW (n + 1)) 51 [.d (.str s), .d (.str wY)] st (.d (.str (s ++ [32] ++ wY))) st := by
  intro Q q
  refine K.c (fi := fi51) (ir := ir51) rfl rfl rfl ?_
  have hb := big_eq
  refine an bg2 (exC (inFY (b := true) (by decide)) ?_)
  refine exO (.addS (y := codes " ") (by rw [codes1.1]; show _ + 1 ≤ big; omega)) ?_
  rw [codes1.1]
  refine exO (.addS (by rw [ap1]; show _ + 1 + 3 ≤ big; omega)) q
theorem c_ahead (n : Nat) (S : List Nat) (hne : S ≠ []) (hs : S.length ≤ 100000) (c : Nat) (hc : isW [c] = false) (st : List AO) : RC (CW (n + 1)) 51 [.d (.str S), .d (.str [c])] st (.d (.str (aheadS S c))) st := by
  rcases List.eq_nil_or_concat S with rfl | ⟨s, x, rfl⟩
  · exact absurd rfl hne
  · rw [List.concat_eq_append] at hs ⊢
    rw [ap1] at hs
    intro Q q
    unfold aheadS at q
    rw [gl_app s (List.cons_ne_nil x [])] at q
    replace q : Q (.d (.str (if inMT x = true then s ++ [x] ++ [32, c] else s ++ [x] ++ [c]))) st := q
    refine K.c (fi := fi51) (ir := ir51) rfl rfl rfl ?_
    have hb := big_eq
    refine an bg2 (exC (inFY hc) ?_)
    refine exI ixL (exC (.d (.inS _ _)) ?_)
    rw [cMT]
    refine ifC (fun e => ?_) (fun e => ?_)
    · rw [if_pos e] at q
      refine exO (.addS (y := codes " ") (by rw [codes1.1, ap1]; show _ + 1 + 1 ≤ big; omega)) ?_
      rw [codes1.1]
      refine exO (.addS (by rw [ap1, ap1]; show _ + 1 + 1 + 1 ≤ big; omega)) ?_
      rw [List.append_assoc]
      exact q
    · rw [if_neg e] at q
      exact exO (.addS (by rw [ap1]; show _ + 1 + 1 ≤ big; omega)) q
omit K
theorem row_inner {C N : CallT} {t0 t2 : Option AV} {p : Pos} {Q : Fl → Vars → List AO → Prop} : ∀ (ts acc : List D) (rest : Int) (x4 : Option AV), AllN acc → acc.length + ts.length ≤ 90 →
    (∀ (acc' : List D) (rest' : Int) (y4 : Option AV), Rk acc' → Q .nx [t0, some (.ob 0), t2, some (.d (.int rest')), y4] [.lst acc']) →
    loopF (.nm 4 p) (fun vs st Q => wpSs P0 C N (forB (forB ir47 1) 1) vs st Q) ts [t0, some (.ob 0), t2, some (.d (.int rest)), x4] [.lst acc] Q := by
  intro ts
  induction ts with
  | nil => intro acc rest x4 ha hl q; exact q acc rest x4 ⟨ha, hl⟩
  | cons d ts ih =>
    intro acc rest x4 ha hl q
    rw [List.length_cons] at hl
    have hb := big_eq
    have ha' : AllN (acc ++ [.int (rest.fmod 96)]) := fun d hd => by
      rcases List.mem_append.mp hd with hd | hd
      · exact ha d hd
      · exact ⟨_, List.mem_singleton.mp hd⟩
    have hl' : (acc ++ [D.int (rest.fmod 96)]).length + ts.length ≤ 90 := by rw [ap1]; omega
    have R : Rk (acc ++ [.int (rest.fmod 96)]) := ⟨ha', by omega⟩
    refine an (.lst rfl rfl) (exO (.mod (by decide)) (exM (.append _ rfl (by omega)) ?_))
    refine exO (.fdiv (by decide)) ?_
    refine exC CD.eqI ?_
    refine ifB (fun e => ?_) (fun e => ?_)
    · rw [e]; exact q _ _ _ R
    · refine exC CD.eqI ?_
      refine ifC (fun e2 => ?_) (fun e2 => ?_)
      · exact q _ _ _ R
      · exact ih _ _ _ ha' hl' q
theorem row_outer {C N : CallT} {t0 : Option AV} {p : Pos} {Q : Fl → Vars → List AO → Prop} : ∀ (l : List Int) (acc : List D) (x2 x3 x4 : Option AV), Rk acc →
    (∀ (acc' : List D) (y2 y3 y4 : Option AV), Rk acc' → Q .nx [t0, some (.ob 0), y2, y3, y4] [.lst acc']) →
    loopF (.nm 2 p) (fun vs st Q => wpSs P0 C N (forB ir47 1) vs st Q) (l.map .int) [t0, some (.ob 0), x2, x3, x4] [.lst acc] Q := by
  intro l
  induction l with
  | nil => intro acc x2 x3 x4 R q; exact q acc x2 x3 x4 R
  | cons i l ih =>
    intro acc x2 x3 x4 R q
    have hb := big_eq
    have hl := R.l
    refine exB (.int i) ?_
    refine exB (.lenO (l := acc) rfl (by omega)) (exO (.sub _ _) (exB (.min _ _) ?_))
    have hm : ((if (90 : Int) - (acc.length : Int) < 30 then (90 : Int) - (acc.length : Int) else 30)).toNat + acc.length ≤ 90 := by
      by_cases c : (90 : Int) - (acc.length : Int) < 30
      · rw [if_pos c]; omega
      · rw [if_neg c]; show 30 + _ ≤ 90; omega
    refine exF (.range (by
      by_cases c : (90 : Int) - (acc.length : Int) < 30
      · rw [if_pos c]; omega
      · rw [if_neg c]; decide)) ?_
    refine row_inner _ acc i _ R.a ?_ fun acc' rest' y4 R' => ih acc' _ _ _ R' q
    rw [List.length_map, List.length_range]; omega
include K
theorem c_row (n : Nat) (ns : List Int) (hn : ns.length ≤ 63) {Q : AV → List AO → Prop} (q : ∀ row, Rk row → Q (.ob 0) [.lst row]) : CW (n + 1) 47 [.d (.lst (ns.map .int))] [] Q := by
  refine K.c (fi := fi47) (ir := ir47) rfl rfl rfl ?_
  have hb := big_eq
  refine ⟨_, .lst ⟨by decide, by decide, by rw [List.length_map]; omega⟩, ?_⟩
  show ∃ l, ItR .over (.d (.lst ((ns.map D.int).take 40))) l ∧ _
  rw [← List.map_take]
  refine exF (.lst (by rw [List.length_map, List.length_take]; omega)) ?_
  refine row_outer (ns.take 40) [] _ _ _ ⟨fun d h => (nomatch h), by decide⟩ fun acc y2 y3 y4 R => ?_
  have hl := R.l
  refine an (.lst rfl rfl) (exM (.reverse rfl (by omega)) ?_)
  exact q _ ⟨fun d hd => R.a d (List.mem_reverse.mp hd), by rw [List.length_reverse]; exact hl⟩
end Mn
end
section
namespace Mn
noncomputable def iffA : Ss → Nat → Ss
  | .cons (.iff _ a _ _) _, 0 => a
  | .cons _ r, k + 1 => iffA r k
  | _, _ => .nil
noncomputable def iffB : Ss → Nat → Ss
  | .cons (.iff _ _ b _) _, 0 => b
  | .cons _ r, k + 1 => iffB r k
  | _, _ => .nil
noncomputable def bLo : Ss := forB irL 14
noncomputable def bOp : Ss := iffA bLo 1
noncomputable def sgn (w : List Nat) (p : Int × Kd) : D := .tup [.str w, .str p.2.s, .int p.1]
noncomputable def ent (p : Int × Kd) : D := .tup [.int p.1, .str p.2.s]
noncomputable def gP (g : Sig) : AO := .dI [(3, ent (g.pre false)), (29, ent (g.pre true))]
noncomputable def gI (g : Sig) : AO := .dI [(7, .tup [.int 1000, .str Kd.xfy.s]), (3, ent (g.inf false)), (29, ent (g.inf true))]
noncomputable def gQ (g : Sig) : AO := .dI [(30, ent (g.post false)), (31, ent (g.post true))]
noncomputable def sgL (g : Sig) : List D := [sgn [45] (g.inf false), sgn wF (g.inf true), sgn [45] (g.pre false), sgn wF (g.pre true), sgn [126] (g.post false), sgn wY (g.post true)]
structure GK (g : Sig) : Prop extends GS g where
  ki : ∀ i, (g.inf i).2.cl = .inf
  kp : ∀ i, (g.pre i).2.cl = .pre
  kq : ∀ i, (g.post i).2.cl = .post
noncomputable def tx3 : List (List Nat) := tx0 ++ [wF, [126], wY]
noncomputable def txL (gg : Bool) : List (List Nat) := tx0 ++ [wF, [126], wY, [98]] ++ if gg = true then [[103]] else []
theorem txL_nd (gg : Bool) : (txL gg).Nodup := by
  have : decide (txL gg).Nodup = true := by cases gg <;> kernel_rfl
  exact of_decide_eq_true this
theorem txL_at (gg : Bool) : (txL gg)[3]? = some [45] ∧ (txL gg)[29]? = some wF ∧ (txL gg)[30]? = some [126] ∧ (txL gg)[31]? = some wY ∧ (txL gg)[32]? = some [98] := by
  cases gg <;> (refine ⟨?_, ?_, ?_, ?_, ?_⟩ <;> kernel_rfl)
theorem txL_F (gg : Bool) (i : Bool) : (txL gg)[aF i]? = some (wSg i) := by
  obtain ⟨a, b, c, d, e⟩ := txL_at gg
  cases i
  · exact a
  · exact b
theorem txL_P (gg : Bool) (i : Bool) : (txL gg)[aP i]? = some (wPg i) := by
  obtain ⟨a, b, c, d, e⟩ := txL_at gg
  cases i
  · exact c
  · exact d
theorem txL_g : (txL true)[33]? = some [103] ∧ (txL false).length = 33 ∧ [103] ∉ txL false ∧ txL true = txL false ++ [[103]] := by
  refine ⟨by kernel_rfl, by kernel_rfl, ?_, by kernel_rfl⟩
  have : decide ([103] ∉ txL false) = true := by kernel_rfl
  exact of_decide_eq_true this
noncomputable def lst (row : List D) (g : Sig) (gg : Bool) (fs : List (List Int)) : List AO := bst (bY row (txL gg) fs (gP g) (gI g) (gQ g)) []
structure FsOk (gg : Bool) (fs : List (List Int)) (N : Nat) : Prop where
  n33 : gg = false → ∀ r, pr 33 r ∉ fs
  nd : fs.Nodup
  ln : fs.length ≤ N
  z0 : fs[0]? = some [1, 2]
  z9 : fs[9]? = some [2, 1]
theorem fs_ok (a : Nat) (ha : a ∈ [3, 29, 30, 31, 33]) {fs fs' : List (List Int)} {N : Nat} {gg gg' : Bool} (F : FsOk gg fs N) (hg : gg' = false → gg = false ∧ a ≠ 33) {f : Nat} {r : Int} (nd : fs'.Nodup) (l : fs'.length ≤ fs.length + 1) (x : ∃ e, fs' = fs ++ e ∧ ∀ y ∈ e, y = pr a r) (e : fs'[f]? = some [(a : Int), r]) : FsOk gg' fs' (N + 1) ∧ (∃ e, fs' = fs ++ e) ∧ okF (fs'.map fD) f a := by
  obtain ⟨y, rfl, hy⟩ := x
  have z0 : (fs ++ y)[0]? = some [1, 2] := by rw [List.getElem?_append_left (List.getElem?_eq_some_iff.mp F.z0).1]; exact F.z0
  have z9 : (fs ++ y)[9]? = some [2, 1] := by rw [List.getElem?_append_left (List.getElem?_eq_some_iff.mp F.z9).1]; exact F.z9
  have hn : a ≠ 1 ∧ a ≠ 2 := by
    have : ∀ a ∈ [3, 29, 30, 31, 33], a ≠ 1 ∧ a ≠ 2 := by decide
    exact this a ha
  refine ⟨⟨fun hf r' hm => ?_, nd, by have := F.ln; omega, z0, z9⟩, ⟨_, rfl⟩, ha, fun c => ?_, fun c => ?_, .int r, ?_⟩
  · obtain ⟨h1, h2⟩ := hg hf
    rcases List.mem_append.mp hm with hm | hm
    · exact F.n33 h1 _ hm
    · have := (List.cons.inj (hy _ hm)).1
      omega
  · subst c
    rw [z0] at e
    have := (List.cons.inj (Option.some.inj e)).1
    omega
  · subst c
    rw [z9] at e
    have := (List.cons.inj (Option.some.inj e)).1
    omega
  · rw [List.getElem?_map, e]; rfl
theorem okF_mono {fs : List D} {e : List D} {f a : Nat} (h : okF fs f a) : okF (fs ++ e) f a := by
  obtain ⟨h1, h2, h3, ar, h4⟩ := h
  exact ⟨h1, h2, h3, ar, by rw [List.getElem?_append_left (List.getElem?_eq_some_iff.mp h4).1]; exact h4⟩
theorem LI.mono {g : Sig} {fs : List (List Int)} {t : T} {w : List Nat} {ls : Bool} {due : Due} (L : LI g (fs.map fD) t w ls due) {fs' : List (List Int)} (h : ∃ e, fs' = fs ++ e) : LI g (fs'.map fD) t w ls due := by
  obtain ⟨e, rfl⟩ := h
  refine ⟨L.good, L.ln, L.du, L.lst, fun cx gA gF A => L.at_ cx gA gF ⟨A.txF, A.txP, A.txb, A.txg, A.inf, A.pre, A.post, A.preP, A.no, A.ga, fun f a o => A.fn f a ?_⟩⟩
  rw [List.map_append]
  exact okF_mono o
variable {CW NW : Nat → CallT} (K : Wk CW NW) (g : Sig) (gg : Bool) (row : List D) (fs : List (List Int))
include K
theorem l_next (n : Nat) (m : Int) (hm : 0 < m) (hr : Rk row) : ∃ r row', RC (CW (n + 1)) 48 [.ob 0, .d (.int m)] (lst row g gg fs) (.d (.int r)) (lst row' g gg fs) ∧ 0 ≤ r ∧ r < m ∧ Rk row' := c_next K n m hm row hr _
theorem l_func (n : Nat) {N : Nat} (F : FsOk gg fs N) (hN : N ≤ 5000) (a : Nat) (ha : a ∈ [3, 29, 30, 31, 33]) (h3 : gg = false → a ≠ 33) (s : List Nat) (hs : (txL gg)[a]? = some s) (r : Int) :
    ∃ (f : Nat) (fs' : List (List Int)), RC (CW (n + 2)) 6 [.ob 1, .d (.str s), .d (.int r)] (lst row g gg fs) (.d (.int f)) (lst row g gg fs') ∧ FsOk gg fs' (N + 1) ∧ (∃ e, fs' = fs ++ e) ∧ okF (fs'.map fD) f a := by
  obtain ⟨f, fs', e, nd, l, x, h, _⟩ := y_functor K n row (txL gg) fs [.ins 1 [(4, .ob 1), (5, .ob 7), (6, .ob 8), (7, .ob 9)], gP g, gI g, gQ g] a r F.nd (by have := F.ln; have := big_eq; omega)
  obtain ⟨F', x, o⟩ := fs_ok a ha F (gg' := gg) (fun h => ⟨h, h3 h⟩) nd l x h
  exact ⟨f, fs', c_func K n rfl (y_atom_old K n row (txL gg) fs _ s a (txL_nd gg) hs) e, F', x, o⟩
theorem l_funcG (n : Nat) {N : Nat} (F : FsOk gg fs N) (hN : N ≤ 5000) (r : Int) :
    ∃ (f : Nat) (fs' : List (List Int)), RC (CW (n + 2)) 6 [.ob 1, .d (.str [103]), .d (.int r)] (lst row g gg fs) (.d (.int f)) (lst row g true fs') ∧ FsOk true fs' (N + 1) ∧ (∃ e, fs' = fs ++ e) ∧ okF (fs'.map fD) f 33 := by
  obtain ⟨t1, t2, t3, t4⟩ := txL_g
  cases gg with
  | true => exact l_func K g true row fs n F hN 33 (by decide) (fun h => (nomatch h)) [103] t1 r
  | false =>
    obtain ⟨f, fs', e, nd, l, x, h, _⟩ := y_functor K n row (txL true) fs [.ins 1 [(4, .ob 1), (5, .ob 7), (6, .ob 8), (7, .ob 9)], gP g, gI g, gQ g] 33 r F.nd (by have := F.ln; have := big_eq; omega)
    obtain ⟨F', x, o⟩ := fs_ok 33 (by decide) F (gg' := true) (fun h => (nomatch h)) nd l x h
    have A := y_atom_new K n row (txL false) fs [.ins 1 [(4, .ob 1), (5, .ob 7), (6, .ob 8), (7, .ob 9)], gP g, gI g, gQ g] [103] t3 (by rw [t2]; decide)
    rw [← t4, t2] at A
    exact ⟨f, fs', c_func K n rfl A e, F', x, o⟩
structure V where
  (s0 x5 x6 x7 x8 : Option AV)
  sg : List D
  most : Int
  t : D
  w : List Nat
  (tl rc : Int)
  ls : Bool
  du : D
  (x17 x18 x19 x20 x21 x22 x23 : Option AV)
noncomputable def V.vs (v : V) : Vars := [v.s0, some (.ob 0), some (.ob 1), some (.ob 6), some (.d (.lst v.sg)), v.x5, v.x6, v.x7, v.x8, some (.d (.int v.most)), some (.d (tA 32)), some (.d v.t), some (.d (.str v.w)), some (.d (.int v.tl)), some (.d (.int v.rc)), some (.d (.boo v.ls)), some (.d v.du), v.x17, v.x18, v.x19, v.x20, v.x21, v.x22, v.x23, none]
structure U where
  (s0 x6 x17 x23 : Option AV)
  sg : List D
  most : Int
  t : D
  w : List Nat
  (tl rc : Int)
  ls : Bool
  du : D
  wd : List Nat
  k : Kd
  h : Int
  way : Nat
  (l r : Int)
  (ol or : List Nat)
noncomputable def U.v (u : U) : V := ⟨u.s0, some (.d (.str u.wd)), u.x6, some (.d (.str u.k.s)), some (.d (.int u.h)), u.sg, u.most, u.t, u.w, u.tl, u.rc, u.ls, u.du, u.x17, some (.d (.int u.way)), some (.d (.int u.l)), some (.d (.int u.r)), some (.d (.str u.ol)), some (.d (.str u.or)), u.x23⟩
noncomputable def U.vs (u : U) : Vars := u.v.vs
noncomputable def V.u (v : V) (way : Nat) (w : List Nat) (p : Int × Kd) (l r : Int) (ol or : List Nat) : U := ⟨v.s0, v.x6, v.x17, v.x23, v.sg, v.most, v.t, v.w, v.tl, v.rc, v.ls, v.du, w, p.2, p.1, way, l, r, ol, or⟩
noncomputable def kL (h : Int) : Kd → Int | .yfx => h | .yf => h | _ => h - 1
noncomputable def kR (h : Int) : Kd → Int | .xfy => h | .fy => h | _ => h - 1
omit K
theorem k_first (st : List AO) (k : Kd) : ∃ c, IdxR st (.d (.str k.s)) (.d (.int 0)) (.d (.str [c])) ∧ (((c == 121) = true ∧ ∀ h, kL h k = h) ∨ ((c == 121) = false ∧ ∀ h, kL h k = h - 1)) := by
  cases k <;> exact ⟨_, ixS, by first | exact .inl ⟨rfl, fun _ => rfl⟩ | exact .inr ⟨rfl, fun _ => rfl⟩⟩
theorem k_last (st : List AO) (k : Kd) : ∃ c, IdxR st (.d (.str k.s)) (.d (.int (-1))) (.d (.str [c])) ∧ (((c == 121) = true ∧ ∀ h, kR h k = h) ∨ ((c == 121) = false ∧ ∀ h, kR h k = h - 1)) := by
  have h : ∃ u c, k.s = u ++ [c] ∧ (((c == 121) = true ∧ ∀ h, kR h k = h) ∨ ((c == 121) = false ∧ ∀ h, kR h k = h - 1)) := by
    cases k
    · exact ⟨[120, 102], 120, rfl, .inr ⟨rfl, fun _ => rfl⟩⟩
    · exact ⟨[120, 102], 121, rfl, .inl ⟨rfl, fun _ => rfl⟩⟩
    · exact ⟨[121, 102], 120, rfl, .inr ⟨rfl, fun _ => rfl⟩⟩
    · exact ⟨[102], 121, rfl, .inl ⟨rfl, fun _ => rfl⟩⟩
    · exact ⟨[102], 120, rfl, .inr ⟨rfl, fun _ => rfl⟩⟩
    · exact ⟨[121], 102, rfl, .inr ⟨rfl, fun _ => rfl⟩⟩
    · exact ⟨[120], 102, rfl, .inr ⟨rfl, fun _ => rfl⟩⟩
  obtain ⟨u, c, e, q⟩ := h
  rw [e]
  exact ⟨c, ixL, q⟩
theorem kL_inf (h : Int) (k : Kd) (c : k.cl = .inf) : kL h k = k.lb h ∧ kR h k = k.rb h := by cases k <;> first | (cases c; done) | exact ⟨rfl, rfl⟩
theorem kR_pre (h : Int) (k : Kd) (c : k.cl = .pre) : kR h k = k.rb h := by cases k <;> first | (cases c; done) | rfl
theorem kL_post (h : Int) (k : Kd) (c : k.cl = .post) : kL h k = k.lb h ∧ k.rb h = 0 := by cases k <;> first | (cases c; done) | exact ⟨rfl, rfl⟩
theorem cy : codes "y" = [121] := by kernel_rfl
include K
theorem op_head (n : Nat) (v : V) (way : Nat) (hw : v.x18 = some (.d (.int way))) (hw4 : way < 4294967296) (w : List Nat) (p : Int × Kd) (hs : v.sg[way]? = some (sgn w p)) (hl : v.w.length ≤ 100000) {st : List AO} {Q : Fl → Vars → List AO → Prop}
    (H : wpSs P0 (CW (n + 1)) (NW (n + 1)) (dropB 5 bOp) (v.u way w p (kL p.1 p.2) (kR p.1 p.2) (held (decide (kL p.1 p.2 < v.tl) || decide (p.1 ≤ v.rc)) v.w) (held (decide (kR p.1 p.2 < v.tl)) v.w)).vs st Q) :
    wpSs P0 (CW (n + 1)) (NW (n + 1)) bOp v.vs st Q := by
  obtain ⟨c0, i0, q0⟩ := k_first st p.2
  obtain ⟨c1, i1, q1⟩ := k_last st p.2
  obtain ⟨s0, x5, x6, x7, x8, sg, most, t, vw, tl, rc, ls, du, x17, x18, x19, x20, x21, x22, x23⟩ := v
  cases hw
  refine exI (.lst (idx_nat hs hw4)) (exI i0 (exC (eq1 cy) ?_))
  have g2 : wpSs P0 (CW (n + 1)) (NW (n + 1)) (dropB 2 bOp) (V.vs ⟨s0, some (.d (.str w)), x6, some (.d (.str p.2.s)), some (.d (.int p.1)), sg, most, t, vw, tl, rc, ls, du, x17, some (.d (.int way)), some (.d (.int (kL p.1 p.2))), x20, x21, x22, x23⟩) st Q := by
    refine exI i1 (exC (eq1 cy) ?_)
    have g3 : wpSs P0 (CW (n + 1)) (NW (n + 1)) (dropB 3 bOp) (V.vs ⟨s0, some (.d (.str w)), x6, some (.d (.str p.2.s)), some (.d (.int p.1)), sg, most, t, vw, tl, rc, ls, du, x17, some (.d (.int way)), some (.d (.int (kL p.1 p.2))), some (.d (.int (kR p.1 p.2))), x21, x22, x23⟩) st Q := by
      refine exC (.d (.gt _ _)) ?_
      refine ifB (fun e => ?_) (fun e => ?_)
      · rw [show decide (kL p.1 p.2 < tl) = true from e, Bool.true_or] at H
        rw [show decide (kL p.1 p.2 < tl) = true from e]
        exact c_held K n vw true hl _ _ (exC (.d (.gt _ _)) (c_held K n vw _ hl _ _ H))
      · rw [show decide (kL p.1 p.2 < tl) = false from e, Bool.false_or] at H
        exact exC (.d (.ge _ _)) (c_held K n vw _ hl _ _ (exC (.d (.gt _ _)) (c_held K n vw _ hl _ _ H)))
    rcases q1 with ⟨e, ek⟩ | ⟨e, ek⟩
    · rw [ek] at g3; exact ifT e g3
    · rw [ek] at g3; exact ifF (fun c => Bool.false_ne_true (e.symm.trans c)) (exO (.sub _ _) g3)
  rcases q0 with ⟨e, ek⟩ | ⟨e, ek⟩
  · rw [ek] at g2; exact ifT e g2
  · rw [ek] at g2; exact ifF (fun c => Bool.false_ne_true (e.symm.trans c)) (exO (.sub _ _) g2)
end Mn
end
section
namespace Mn
theorem tS_c (f : Nat) (l : List D) : tS f l = .tup [.str (codes "s"), .int f, .tup l] := by rw [cA.2.2.2.1]; rfl
theorem cb6 : codes " foo b" = [32, 102, 111, 111, 32, 98] ∧ codes "b foo " = [98, 32, 102, 111, 111, 32] ∧ codes "b" = [98] ∧ codes "- " = [45, 32] := by
  refine ⟨?_, ?_, ?_, ?_⟩ <;> kernel_rfl
noncomputable def duD : Due → D
  | none => .non
  | some (j, p) => .tup [.str (kdS j), .int p.1, .str p.2.s]
theorem bg6 : 6 ≤ big := by decide
theorem kinds_ix {st : List AO} (i : Nat) (hi : i < 6) {j : Nat} (hj : [1, 1, 0, 0, 2, 2][i]? = some j) : IdxR st (.d (.lst [.str (codes "infix"), .str (codes "infix"), .str (codes "prefix"), .str (codes "prefix"), .str (codes "postfix"), .str (codes "postfix")])) (.d (.int i)) (.d (.str (kdS j))) := by
  rw [cI.1, cI.2.1, cI.2.2]
  refine .lst (idx_nat ?_ (by omega))
  match i, hi with
  | 0, _ => cases hj; rfl
  | 1, _ => cases hj; rfl
  | 2, _ => cases hj; rfl
  | 3, _ => cases hj; rfl
  | 4, _ => cases hj; rfl
  | 5, _ => cases hj; rfl
section
variable {C N : CallT}
theorem w_asg {i : Nat} {p q : Pos} {x : X} {r : Ss} {vs : Vars} {st st' : List AO} {Q : Fl → Vars → List AO → Prop} {v : AV} (hx : ∀ Q' : AV → List AO → Prop, Q' v st' → wpX P0 C N x false vs st Q') (hi : i < vs.length) (k : wpSs P0 C N r (vs.set i (some v)) st' Q) : wpSs P0 C N (.cons (.asg (.nm i p) x q) r) vs st Q := hx _ (by
  show (match (if i < vs.length then some (vs.set i (some v)) else none) with | some vs => _ | none => False)
  rw [if_pos hi]
  exact k)
theorem op_end (u : U) {j : Nat} (hj : [1, 1, 0, 0, 2, 2][u.way]? = some j) {st : List AO} {Q : Fl → Vars → List AO → Prop}
    (H : Q .ct { u with tl := u.h, rc := u.r, ls := false, du := duD (some (j, u.h, u.k)) }.vs st) : wpSs P0 C N (dropB 6 bOp) u.vs st Q :=
  an bg6 (exI (kinds_ix u.way (List.getElem?_eq_some_iff.mp hj).1 hj) (an bg3 H))
end
theorem cM : codes "-" = [45] := codes1.2.2.1
theorem isM {st : List AO} {w s : List Nat} {b : Bool} (h : w = s) (e : (s == [45]) = b) : CA st .Eq (.d (.str w)) (.d (.str (codes "-"))) b := by subst h; rw [cM, ← e]; exact CD.eqS
variable {CW NW : Nat → CallT} (K : Wk CW NW) {g : Sig} {gg : Bool} {row : List D} {fs : List (List Int)}
include K
theorem step_post (i : Bool) (n N : Nat) (F : FsOk gg fs N) (hN : N ≤ 5000) (u : U) (hl : u.ol ≠ [] ∧ u.ol.length ≤ 100000) (hd : u.wd = wPg i) (hw : u.way = if i = true then 5 else 4) {Q : Fl → Vars → List AO → Prop}
    (H : ∀ (f : Nat) (fs' : List (List Int)), FsOk gg fs' (N + 1) → (∃ e, fs' = fs ++ e) → okF (fs'.map fD) f (aP i) → Q .ct { u with t := tS f [u.t], w := if i = true then u.ol ++ [32] ++ wY else aheadS u.ol 126, tl := u.h, rc := 0, ls := false, du := duD (some (2, u.h, u.k)), r := 0 }.vs (lst row g gg fs')) :
    wpSs P0 (CW (n + 2)) (NW (n + 2)) (dropB 5 bOp) u.vs (lst row g gg fs) Q := by
  obtain ⟨f, fs', e1, F', x, o⟩ := l_func K g gg row fs n F hN (aP i) (by cases i <;> decide) (fun _ => by cases i <;> decide) (wPg i) (txL_P gg i) 1
  have H := H f fs' F' x o
  rw [tS_c] at H
  rw [← hd] at e1
  have h4 : (3 : Int) < (u.way : Int) := by rw [hw]; cases i <;> decide
  have hx : RC (CW (n + 2)) 51 [.d (.str u.ol), .d (.str u.wd)] (lst row g gg fs') (.d (.str (if i = true then u.ol ++ [32] ++ wY else aheadS u.ol 126))) (lst row g gg fs') := by
    rw [hd]
    cases i
    · exact c_ahead K (n + 1) u.ol hl.1 hl.2 126 (by decide) _
    · exact c_ahead_y K (n + 1) u.ol hl.2 _
  refine exC (.d (.gt _ _)) (ifT (decide_eq_true h4) ?_)
  refine w_asg (fun Q' q => e1 _ (an bg1 (an bg3 q))) (by exact Nat.le_of_ble_eq_true rfl) (w_asg (fun Q' q => hx _ q) (by exact Nat.le_of_ble_eq_true rfl) (w_asg (fun Q' q => q) (by exact Nat.le_of_ble_eq_true rfl) ?_))
  exact op_end { u with t := .tup [.str (codes "s"), .int f, .tup [u.t]], w := if i = true then u.ol ++ [32] ++ wY else aheadS u.ol 126, r := 0 } (j := 2) (by show [1, 1, 0, 0, 2, 2][u.way]? = _; rw [hw]; cases i <;> rfl) H
theorem step_pre (i : Bool) (n N : Nat) (F : FsOk gg fs N) (hN : N ≤ 5000) (u : U) (hr : u.or ≠ [] ∧ u.or.length ≤ 100000) (hd : u.wd = wSg i) (hw : u.way = if i = true then 3 else 2) {Q : Fl → Vars → List AO → Prop}
    (H : ∀ (f : Nat) (fs' : List (List Int)), FsOk gg fs' (N + 1) → (∃ e, fs' = fs ++ e) → okF (fs'.map fD) f (aF i) → Q .ct { u with t := tS f [u.t], w := if i = true then wF ++ [32] ++ u.or else if u.or.headD 0 = 40 then [45, 32] ++ u.or else afterM u.or, tl := u.h, rc := u.r, ls := false, du := duD (some (0, u.h, u.k)) }.vs (lst row g gg fs')) :
    wpSs P0 (CW (n + 2)) (NW (n + 2)) (dropB 5 bOp) u.vs (lst row g gg fs) Q := by
  obtain ⟨f, fs', e1, F', x, o⟩ := l_func K g gg row fs n F hN (aF i) (by cases i <;> decide) (fun _ => by cases i <;> decide) (wSg i) (txL_F gg i) 1
  have H := H f fs' F' x o
  rw [tS_c] at H
  rw [← hd] at e1
  have h4 : ¬ (3 : Int) < (u.way : Int) ∧ (1 : Int) < (u.way : Int) := by rw [hw]; cases i <;> decide
  have hb := big_eq
  have E := op_end (C := CW (n + 2)) (N := NW (n + 2)) { u with t := .tup [.str (codes "s"), .int f, .tup [u.t]], w := if i = true then wF ++ [32] ++ u.or else if u.or.headD 0 = 40 then [45, 32] ++ u.or else afterM u.or } (j := 0) (by show [1, 1, 0, 0, 2, 2][u.way]? = _; rw [hw]; cases i <;> rfl) H
  obtain ⟨c, r, er⟩ : ∃ c r, u.or = c :: r := by
    cases h : u.or with
    | nil => exact absurd h hr.1
    | cons c r => exact ⟨c, r, rfl⟩
  have i0 : IdxR (lst row g gg fs') (.d (.str u.or)) (.d (.int 0)) (.d (.str [c])) := by rw [er]; exact ixS
  have hh : u.or.headD 0 = c := by rw [er]; rfl
  rw [hh] at E
  refine exC (.d (.gt _ _)) (ifF (fun c => h4.1 (of_decide_eq_true c)) (exC (.d (.gt _ _)) (ifT (decide_eq_true h4.2) ?_)))
  refine w_asg (fun Q' q => e1 _ (an bg1 (an bg3 q))) (by exact Nat.le_of_ble_eq_true rfl) ?_
  cases i
  · by_cases e : c = 40
    · rw [if_pos e] at E
      refine w_asg (fun Q' q => exC (isM hd rfl) (exI i0 (exC (eq1 codes1.2.1) (ifT (beq_iff_eq.mpr e) (exO (.addS (x := codes "- ") (by rw [cb6.2.2.2]; have := hr.2; show 2 + _ ≤ big; omega)) q))))) (by exact Nat.le_of_ble_eq_true rfl) ?_
      rw [cb6.2.2.2]
      exact E
    · rw [if_neg e] at E
      have ca := c_after K (n + 1) u.or hr.1 hr.2 (lst row g gg fs')
      rw [show [45] = u.wd from hd.symm] at ca
      refine w_asg (fun Q' q => exC (isM hd rfl) (exI i0 (exC (eq1 codes1.2.1) (ifF (fun c => e (beq_iff_eq.mp c)) (ca _ q))))) (by exact Nat.le_of_ble_eq_true rfl) ?_
      exact E
  · have ca := c_after_f K (n + 1) u.or hr.2 (lst row g gg fs')
    have hx : RC (CW (n + 2)) 50 [.d (.str u.wd), .d (.str u.or)] (lst row g gg fs') (.d (.str (wF ++ [32] ++ u.or))) (lst row g gg fs') := by rw [hd]; exact ca
    refine w_asg (fun Q' q => exC (isM hd (b := false) (by decide)) (hx _ q)) (by exact Nat.le_of_ble_eq_true rfl) ?_
    exact E
theorem step_inf (i : Bool) (n N : Nat) (F : FsOk gg fs N) (hN : N ≤ 5000) (hrw : Rk row) (u : U) (hl : u.ol ≠ [] ∧ u.ol.length ≤ 100000) (hr : u.or ≠ [] ∧ u.or.length ≤ 100000) (hd : u.wd = wSg i) (hw : u.way = if i = true then 1 else 0) {Q : Fl → Vars → List AO → Prop}
    (H : ∀ (row' : List D) (f : Nat) (fs' : List (List Int)), Rk row' → FsOk gg fs' (N + 1) → (∃ e, fs' = fs ++ e) → okF (fs'.map fD) f (aF i) → Q .ct { u with t := tS f [u.t, tA 32], w := if i = true then u.ol ++ [32, 102, 111, 111, 32, 98] else aheadS u.ol 45 ++ [98], tl := u.h, rc := u.r, ls := false, du := duD (some (1, u.h, u.k)) }.vs (lst row' g gg fs') ∧
      Q .ct { u with t := tS f [tA 32, u.t], w := if i = true then [98, 32, 102, 111, 111, 32] ++ u.or else [98] ++ afterM u.or, tl := u.h, rc := u.r, ls := false, du := duD (some (1, u.h, u.k)) }.vs (lst row' g gg fs')) :
    wpSs P0 (CW (n + 2)) (NW (n + 2)) (dropB 5 bOp) u.vs (lst row g gg fs) Q := by
  obtain ⟨x, row', e0, x0, x2, hrw'⟩ := l_next K g gg row fs (n + 1) 2 (by decide) hrw
  obtain ⟨f, fs', e1, F', x, o⟩ := l_func K g gg row' fs n F hN (aF i) (by cases i <;> decide) (fun _ => by cases i <;> decide) (wSg i) (txL_F gg i) 2
  obtain ⟨H1, H2⟩ := H row' f fs' hrw' F' x o
  rw [tS_c] at H1 H2
  rw [← hd] at e1
  have h4 : ¬ (3 : Int) < (u.way : Int) ∧ ¬ (1 : Int) < (u.way : Int) := by rw [hw]; cases i <;> decide
  have hj : [1, 1, 0, 0, 2, 2][u.way]? = some 1 := by rw [hw]; cases i <;> rfl
  have hb := big_eq
  have hl2 := hl.2
  have hr2 := hr.2
  refine exC (.d (.gt _ _)) (ifF (fun c => h4.1 (of_decide_eq_true c)) (exC (.d (.gt _ _)) (ifF (fun c => h4.2 (of_decide_eq_true c)) ?_)))
  refine e0 _ (exC CD.eqI ?_)
  refine ifC (fun ex => ?_) (fun ex => ?_)
  · have E := op_end (C := CW (n + 2)) (N := NW (n + 2)) { u with t := .tup [.str (codes "s"), .int f, .tup [u.t, tA 32]], w := if i = true then u.ol ++ [32, 102, 111, 111, 32, 98] else aheadS u.ol 45 ++ [98] } hj H1
    refine w_asg (fun Q' q => e1 _ (an bg2 (an bg3 q))) (by exact Nat.le_of_ble_eq_true rfl) ?_
    cases i
    · have al := ahead_len u.ol 45
      have nw : isW (aheadS u.ol 45) = false := by
        have gl := ahead_gl u.ol 45
        show (wF == aheadS u.ol 45 || (wY == aheadS u.ol 45 || false)) = false
        have e1 : (wF == aheadS u.ol 45) = false := by rw [beq_eq_false_iff_ne]; intro e; rw [← e] at gl; exact absurd gl (by decide)
        have e2 : (wY == aheadS u.ol 45) = false := by rw [beq_eq_false_iff_ne]; intro e; rw [← e] at gl; exact absurd gl (by decide)
        rw [e1, e2]; rfl
      have ca := c_after_g K (n + 1) (aheadS u.ol 45) nw 98 [] (by show _ + 0 ≤ _; omega) (lst row' g gg fs')
      rw [← cb6.2.2.1] at ca
      have cd := c_ahead K (n + 1) u.ol hl.1 hl.2 45 (by decide) (lst row' g gg fs')
      rw [show [45] = u.wd from hd.symm] at cd
      refine w_asg (fun Q' q => exC (isM hd rfl) (cd _ (ca _ q))) (by exact Nat.le_of_ble_eq_true rfl) ?_
      rw [cb6.2.2.1]
      exact E
    · refine w_asg (fun Q' q => exC (isM hd (b := false) (by decide)) (exO (.addS (y := codes " foo b") (by rw [cb6.1]; show _ + 6 ≤ big; omega)) q)) (by exact Nat.le_of_ble_eq_true rfl) ?_
      rw [cb6.1]
      exact E
  · have E := op_end (C := CW (n + 2)) (N := NW (n + 2)) { u with t := .tup [.str (codes "s"), .int f, .tup [tA 32, u.t]], w := if i = true then [98, 32, 102, 111, 111, 32] ++ u.or else [98] ++ afterM u.or } hj H2
    refine w_asg (fun Q' q => e1 _ (an bg2 (an bg3 q))) (by exact Nat.le_of_ble_eq_true rfl) ?_
    cases i
    · have al := after_len u.or
      have ca := c_after K (n + 1) u.or hr.1 hr.2 (lst row' g gg fs')
      rw [show [45] = u.wd from hd.symm] at ca
      refine w_asg (fun Q' q => exC (isM hd rfl) (ca _ (exO (.addS (x := codes "b") (by rw [cb6.2.2.1]; show 1 + _ ≤ big; omega)) q))) (by exact Nat.le_of_ble_eq_true rfl) ?_
      rw [cb6.2.2.1]
      exact E
    · refine w_asg (fun Q' q => exC (isM hd (b := false) (by decide)) (exO (.addS (x := codes "b foo ") (by rw [cb6.2.1]; show 6 + _ ≤ big; omega)) q)) (by exact Nat.le_of_ble_eq_true rfl) ?_
      rw [cb6.2.1]
      exact E
end Mn
end
section
namespace Mn
theorem cc6 : codes "g(" = [103, 40] ∧ codes "{" = [123] ∧ codes "[" = [91] ∧ codes "[b," = [91, 98, 44] ∧ codes "[b|" = [91, 98, 124] ∧ codes "g" = [103] := by
  refine ⟨?_, ?_, ?_, ?_, ?_, ?_⟩ <;> kernel_rfl
theorem tA_c (a : Nat) : tA a = .tup [.str (codes "a"), .int a] := by rw [cA.1]; rfl
noncomputable def V.i (v : V) (way : Nat) (r : List Nat) : V := { v with x18 := some (.d (.int way)), x23 := some (.d (.str r)) }
theorem lo_end {C N : CallT} (v : V) (i : Nat) (r : List Nat) {st : List AO} {Q : Fl → Vars → List AO → Prop} (H : Q .nx ({ v with tl := 0, rc := 0, ls := ((i : Int) == 8), du := .non }.i i r).vs st) : wpSs P0 C N (dropB 4 bLo) (v.i i r).vs st Q := by
  refine w_asg (fun Q' q => q) (by exact Nat.le_of_ble_eq_true rfl) (w_asg (fun Q' q => q) (by exact Nat.le_of_ble_eq_true rfl) (w_asg (fun Q' q => q) (by exact Nat.le_of_ble_eq_true rfl) (w_asg (fun Q' q => exC CD.eqI q) (by exact Nat.le_of_ble_eq_true rfl) ?_)))
  exact H
theorem wrapS {a b : String} {s ca cb : List Nat} (ha : codes a = ca) (hb : codes b = cb) (h : ca.length + s.length + cb.length ≤ big) {K : AV → Prop} (q : K (.d (.str (ca ++ s ++ cb)))) : ∃ r, BinR .add (.d (.str (codes a))) (.d (.str s)) r ∧ ∃ r', BinR .add r (.d (.str (codes b))) r' ∧ K r' := by
  rw [ha, hb]
  exact ⟨_, .addS (Nat.le_trans (Nat.le_add_right _ _) h), _, .addS (by rw [List.length_append]; exact h), q⟩
variable {CW NW : Nat → CallT} (K : Wk CW NW) {g : Sig} {gg : Bool} {row : List D} {fs : List (List Int)}
include K
theorem step_fn (n N : Nat) (F : FsOk gg fs N) (hN : N ≤ 5000) (v : V) (r : List Nat) (hr : r.length ≤ 100000) {Q : Fl → Vars → List AO → Prop}
    (H : ∀ (f : Nat) (fs' : List (List Int)), FsOk true fs' (N + 1) → (∃ e, fs' = fs ++ e) → okF (fs'.map fD) f 33 → Q .nx ({ v with t := tS f [v.t], w := [103, 40] ++ r ++ [41], tl := 0, rc := 0, ls := false, du := .non }.i 6 r).vs (lst row g true fs')) :
    wpSs P0 (CW (n + 2)) (NW (n + 2)) (dropB 3 bLo) (v.i 6 r).vs (lst row g gg fs) Q := by
  obtain ⟨f, fs', e1, F', x, o⟩ := l_funcG K g gg row fs n F hN 1
  have H := H f fs' F' x o
  rw [tS_c] at H
  rw [← cc6.2.2.2.2.2] at e1
  have hb := big_eq
  refine exC CD.eqI (ifT rfl ?_)
  refine w_asg (fun Q' q => e1 _ (an bg1 (an bg3 q))) (by exact Nat.le_of_ble_eq_true rfl) (w_asg (fun Q' q => wrapS cc6.1 cR.2.2.1 (by show 2 + _ + 1 ≤ big; omega) q) (by exact Nat.le_of_ble_eq_true rfl) ?_)
  exact lo_end { v with t := .tup [.str (codes "s"), .int f, .tup [v.t]], w := [103, 40] ++ r ++ [41] } 6 r H
theorem step_cu (n : Nat) (v : V) (hw : v.w.length ≤ 100000) (r : List Nat) {Q : Fl → Vars → List AO → Prop}
    (H : Q .nx ({ v with t := tS 9 [v.t], w := [123] ++ v.w ++ [125], tl := 0, rc := 0, ls := false, du := .non }.i 7 r).vs (lst row g gg fs)) :
    wpSs P0 (CW (n + 2)) (NW (n + 2)) (dropB 3 bLo) (v.i 7 r).vs (lst row g gg fs) Q := by
  rw [tS_c] at H
  have hb := big_eq
  refine exC CD.eqI (ifF (by decide) (exC CD.eqI (ifT rfl ?_)))
  refine w_asg (fun Q' q => an bg1 (an bg3 q)) (by exact Nat.le_of_ble_eq_true rfl) (w_asg (fun Q' q => wrapS cc6.2.1 cR.2.2.2.2.2.2.2 (by show 1 + v.w.length + 1 ≤ big; omega) q) (by exact Nat.le_of_ble_eq_true rfl) ?_)
  exact lo_end { v with t := .tup [.str (codes "s"), .int (9 : Nat), .tup [v.t]], w := [123] ++ v.w ++ [125] } 7 r H
theorem step_ls (n : Nat) (hrw : Rk row) (v : V) (r : List Nat) (hr : r.length ≤ 100000) (hw : v.w.length ≤ 100000) {Q : Fl → Vars → List AO → Prop}
    (H : ∀ row' : List D, Rk row' → Q .nx ({ v with t := tS 0 [v.t, tA 0], w := [91] ++ r ++ [93], tl := 0, rc := 0, ls := true, du := .non }.i 8 r).vs (lst row' g gg fs) ∧ Q .nx ({ v with t := tS 0 [tA 32, v.t], w := if v.ls = true then [91, 98, 44] ++ v.w.drop 1 else [91, 98, 124] ++ r ++ [93], tl := 0, rc := 0, ls := true, du := .non }.i 8 r).vs (lst row' g gg fs)) :
    wpSs P0 (CW (n + 2)) (NW (n + 2)) (dropB 3 bLo) (v.i 8 r).vs (lst row g gg fs) Q := by
  obtain ⟨x, row', e0, x0, x2, hrw'⟩ := l_next K g gg row fs (n + 1) 2 (by decide) hrw
  obtain ⟨H1, H2⟩ := H row' hrw'
  rw [tS_c] at H1 H2
  have hb := big_eq
  refine exC CD.eqI (ifF (by decide) (exC CD.eqI (ifF (by decide) ?_)))
  refine e0 _ (exC CD.eqI (ifC (fun ex => ?_) (fun ex => ?_)))
  · have E1 := lo_end (C := CW (n + 2)) (N := NW (n + 2)) { v with t := .tup [.str (codes "s"), .int (0 : Nat), .tup [v.t, tA 0]], w := [91] ++ r ++ [93] } 8 r H1
    rw [tA_c 0] at E1
    refine w_asg (fun Q' q => an bg2 (an bg2 (an bg3 q))) (by exact Nat.le_of_ble_eq_true rfl) (w_asg (fun Q' q => wrapS cc6.2.2.1 cR.2.2.2.2.2.1 (by show 1 + _ + 1 ≤ big; omega) q) (by exact Nat.le_of_ble_eq_true rfl) ?_)
    exact E1
  · have E2 := lo_end (C := CW (n + 2)) (N := NW (n + 2)) { v with t := .tup [.str (codes "s"), .int (0 : Nat), .tup [tA 32, v.t]], w := if v.ls = true then [91, 98, 44] ++ v.w.drop 1 else [91, 98, 124] ++ r ++ [93] } 8 r H2
    refine w_asg (fun Q' q => an bg2 (an bg3 q)) (by exact Nat.le_of_ble_eq_true rfl) ?_
    by_cases c : v.ls = true
    · rw [if_pos c] at E2
      refine w_asg (fun Q' q => ifT c ⟨_, .str ⟨by decide, by decide, Nat.le_trans hw (by decide)⟩, exO (.addS (x := codes "[b,") (by rw [cc6.2.2.2.1]; show 3 + (List.drop 1 v.w).length ≤ big; rw [List.length_drop]; omega)) q⟩) (by exact Nat.le_of_ble_eq_true rfl) ?_
      rw [cc6.2.2.2.1]
      exact E2
    · rw [if_neg c] at E2
      refine w_asg (fun Q' q => ifF c (wrapS cc6.2.2.2.2.1 cR.2.2.2.2.2.1 (by show 3 + _ + 1 ≤ big; omega) q)) (by exact Nat.le_of_ble_eq_true rfl) ?_
      exact E2
end Mn
end
section
namespace Mn
structure LP (g : Sig) (most : Int) (N : Nat) (v : V) (row : List D) (gg : Bool) (fs : List (List Int)) (t : T) (due : Due) : Prop where
  sg : v.sg = sgL g
  mo : v.most = most
  te : v.t = t.enc
  tl : v.tl = tallD due
  rc : v.rc = reachD due
  du : v.du = duD due
  L : LI g (fs.map fD) t v.w v.ls due
  hr : Rk row
  F : FsOk gg fs (32 + N)
  sz : t.sz ≤ 2 * N + 1
inductive LS (g : Sig) (most : Int) (N : Nat) : Vars → List AO → Prop
  | mk (v : V) (row : List D) (gg : Bool) (fs : List (List Int)) (t : T) (due : Due) (h : LP g most N v row gg fs t due) : LS g most N v.vs (lst row g gg fs)
theorem FsOk.more {gg : Bool} {fs : List (List Int)} {N : Nat} (F : FsOk gg fs N) : FsOk gg fs (N + 1) := ⟨F.n33, F.nd, Nat.le_succ_of_le F.ln, F.z0, F.z9⟩
theorem nine (way : Nat) (h : way < 9) : (∃ i : Bool, way = if i = true then 1 else 0) ∨ (∃ i : Bool, way = if i = true then 3 else 2) ∨ (∃ i : Bool, way = if i = true then 5 else 4) ∨ way = 6 ∨ way = 7 ∨ way = 8 := by
  have L : ∀ {n m : Nat}, n < m + 1 → n < m ∨ n = m := Nat.lt_succ_iff_lt_or_eq.mp
  rcases L h with h | e
  · rcases L h with h | e
    · rcases L h with h | e
      · rcases L h with h | e
        · rcases L h with h | e
          · rcases L h with h | e
            · rcases L h with h | e
              · rcases L h with h | e
                · rcases L h with h | e
                  · exact absurd h (Nat.not_lt_zero _)
                  · exact .inl ⟨false, e⟩
                · exact .inl ⟨true, e⟩
              · exact .inr (.inl ⟨false, e⟩)
            · exact .inr (.inl ⟨true, e⟩)
          · exact .inr (.inr (.inl ⟨false, e⟩))
        · exact .inr (.inr (.inl ⟨true, e⟩))
      · exact .inr (.inr (.inr (.inl e)))
    · exact .inr (.inr (.inr (.inr (.inl e))))
  · exact .inr (.inr (.inr (.inr (.inr e))))
variable {CW NW : Nat → CallT} (K : Wk CW NW) {g : Sig} (G : GK g)
include K G
theorem turn (n N : Nat) (hN : N ≤ 100) (most : Int) (vs : Vars) (st : List AO) (S : LS g most N vs st) {Q : Fl → Vars → List AO → Prop} (hn : ∀ vs' st', LS g most (N + 1) vs' st' → Q .nx vs' st') (hc : ∀ vs' st', LS g most (N + 1) vs' st' → Q .ct vs' st') :
    wpSs P0 (CW (n + 2)) (NW (n + 2)) bLo vs st Q := by
  obtain ⟨v, row, gg, fs, t, due, hsg, hm, ht, htl, hrc, hdu, L, hr, F, hz⟩ := S
  obtain ⟨r, row', e, r0, r9, hr'⟩ := l_next K g gg row fs (n + 1) 9 (by decide) hr
  have ln := L.ln
  have hw : v.w.length ≤ 100000 := by omega
  have hh : ∀ c : Bool, held c v.w ≠ [] ∧ (held c v.w).length ≤ 100000 := fun c => ⟨(L.good.held c).ne, by have := held_len c v.w; omega⟩
  have hN' : 32 + N ≤ 5000 := by omega
  refine w_asg (fun Q' q => e _ q) (by exact Nat.le_of_ble_eq_true rfl) ?_
  suffices H : ∀ way : Nat, r = way → wpSs P0 (CW (n + 2)) (NW (n + 2)) (dropB 1 bLo) { v with x18 := some (.d (.int way)) }.vs (lst row' g gg fs) Q by
    have := H r.toNat (by omega)
    rw [Int.toNat_of_nonneg r0] at this
    exact this
  intro way hway
  have hway9 : way < 9 := by omega
  have inn : ∀ way : Nat, 6 ≤ way → wpSs P0 (CW (n + 2)) (NW (n + 2)) (dropB 3 bLo) (v.i way (held (decide (999 < tallD due)) v.w)).vs (lst row' g gg fs) Q → wpSs P0 (CW (n + 2)) (NW (n + 2)) (dropB 1 bLo) { v with x18 := some (.d (.int way)) }.vs (lst row' g gg fs) Q := by
    intro way h6 H
    rw [← htl] at H
    refine exC (.d (.lt _ _)) (ifF (fun c => by have := of_decide_eq_true c; omega) ?_)
    refine w_asg (fun Q' q => exC (.d (.gt _ _)) (c_held K (n + 1) v.w _ hw _ _ q)) (by exact Nat.le_of_ble_eq_true rfl) ?_
    exact H
  rcases nine way hway9 with ⟨i, rfl⟩ | ⟨i, rfl⟩ | ⟨i, rfl⟩ | rfl | rfl | rfl
  · refine exC (.d (.lt _ _)) (ifT (decide_eq_true (by cases i <;> decide)) ?_)
    refine op_head K (n + 1) _ _ rfl (by cases i <;> decide) (wSg i) (g.inf i) (by rw [hsg]; cases i <;> rfl) (by exact hw) ?_
    refine step_inf K i n _ F hN' hr' _ (hh _) (hh _) rfl rfl fun row2 f fs' R2 F' x o => ⟨?_, ?_⟩
    · refine hc _ _ (.mk _ row2 gg fs' (.f2 f t (.a 32)) (some (1, g.inf i)) ⟨hsg, hm, ?_, rfl, (kL_inf _ _ (G.ki i)).2, rfl, li_infL G.toGS (L.mono x) i f o ?_ rfl, R2, F', ?_⟩)
      · show tS f [v.t, tA 32] = tS f [t.enc, tA 32]; rw [ht]
      · show held (decide (kL _ _ < v.tl) || decide (_ ≤ v.rc)) v.w = _; rw [(kL_inf _ _ (G.ki i)).1, htl, hrc]
      · show t.sz + 1 + 1 ≤ _; omega
    · refine hc _ _ (.mk _ row2 gg fs' (.f2 f (.a 32) t) (some (1, g.inf i)) ⟨hsg, hm, ?_, rfl, (kL_inf _ _ (G.ki i)).2, rfl, li_infR G.toGS (L.mono x) i f o ?_ rfl, R2, F', ?_⟩)
      · show tS f [tA 32, v.t] = tS f [tA 32, t.enc]; rw [ht]
      · show held (decide (kR _ _ < v.tl)) v.w = _; rw [(kL_inf _ _ (G.ki i)).2, htl]
      · show 1 + t.sz + 1 ≤ _; omega
  · refine exC (.d (.lt _ _)) (ifT (decide_eq_true (by cases i <;> decide)) ?_)
    refine op_head K (n + 1) _ _ rfl (by cases i <;> decide) (wSg i) (g.pre i) (by rw [hsg]; cases i <;> rfl) (by exact hw) ?_
    refine step_pre K i n _ F hN' _ (hh _) rfl rfl fun f fs' F' x o => ?_
    refine hc _ _ (.mk _ row' gg fs' (.f1 f t) (some (0, g.pre i)) ⟨hsg, hm, ?_, rfl, kR_pre _ _ (G.kp i), rfl, li_pre G.toGS (L.mono x) i f o ?_ rfl, hr', F', ?_⟩)
    · show tS f [v.t] = tS f [t.enc]; rw [ht]
    · show held (decide (kR _ _ < v.tl)) v.w = _; rw [kR_pre _ _ (G.kp i), htl]
    · show t.sz + 1 ≤ _; omega
  · refine exC (.d (.lt _ _)) (ifT (decide_eq_true (by cases i <;> decide)) ?_)
    refine op_head K (n + 1) _ _ rfl (by cases i <;> decide) (wPg i) (g.post i) (by rw [hsg]; cases i <;> rfl) (by exact hw) ?_
    refine step_post K i n _ F hN' _ (hh _) rfl rfl fun f fs' F' x o => ?_
    refine hc _ _ (.mk _ row' gg fs' (.f1 f t) (some (2, g.post i)) ⟨hsg, hm, ?_, rfl, (kL_post _ _ (G.kq i)).2.symm, rfl, li_post G.toGS (L.mono x) i f o ?_ rfl, hr', F', ?_⟩)
    · show tS f [v.t] = tS f [t.enc]; rw [ht]
    · show held (decide (kL _ _ < v.tl) || decide (_ ≤ v.rc)) v.w = _; rw [(kL_post _ _ (G.kq i)).1, htl, hrc]
    · show t.sz + 1 ≤ _; omega
  · refine inn 6 (by decide) ?_
    refine step_fn K n _ F hN' _ _ (hh _).2 fun f fs' F' x o => ?_
    refine hn _ _ (.mk _ row' true fs' (.f1 f t) (none) ⟨hsg, hm, ?_, rfl, rfl, rfl, li_fn (L.mono x) f o rfl, hr', F', ?_⟩)
    · show tS f [v.t] = tS f [t.enc]; rw [ht]
    · show t.sz + 1 ≤ _; omega
  · refine inn 7 (by decide) ?_
    refine step_cu K n _ (by exact hw) _ ?_
    refine hn _ _ (.mk _ row' gg fs (.cu t) (none) ⟨hsg, hm, ?_, rfl, rfl, rfl, li_cu L, hr', F.more, ?_⟩)
    · show tS 9 [v.t] = tS 9 [t.enc]; rw [ht]
    · show t.sz + 1 ≤ _; omega
  · refine inn 8 (by decide) ?_
    refine step_ls K n hr' _ _ (hh _).2 (by exact hw) fun row2 R2 => ⟨?_, ?_⟩
    · refine hn _ _ (.mk _ row2 gg fs (.dot t (.a 0)) (none) ⟨hsg, hm, ?_, rfl, rfl, rfl, li_one L rfl, R2, F.more, ?_⟩)
      · show tS 0 [v.t, tA 0] = tS 0 [t.enc, tA 0]; rw [ht]
      · show t.sz + 1 + 1 ≤ _; omega
    · refine hn _ _ (.mk _ row2 gg fs (.dot (.a 32) t) (none) ⟨hsg, hm, ?_, rfl, rfl, rfl, li_cell L rfl rfl, R2, F.more, ?_⟩)
      · show tS 0 [tA 32, v.t] = tS 0 [tA 32, t.enc]; rw [ht]
      · show 1 + t.sz + 1 ≤ _; omega
theorem turns (n : Nat) (most : Int) (p : Pos) {Q : Fl → Vars → List AO → Prop} : ∀ (l : List D) (N : Nat) (vs : Vars) (st : List AO), N + l.length ≤ 100 → LS g most N vs st → (∀ vs' st' M, M ≤ 100 → LS g most M vs' st' → Q .nx vs' st') →
    loopF (.nm 17 p) (fun vs st Q => wpSs P0 (CW (n + 2)) (NW (n + 2)) bLo vs st Q) l vs st Q := by
  intro l
  induction l with
  | nil => intro N vs st h S q; exact q vs st N h S
  | cons d l ih =>
    intro N vs st h S q
    rw [List.length_cons] at h
    obtain ⟨v, row, gg, fs, t, due, S⟩ := S
    have S' : LS g most N { v with x17 := some (.d d) }.vs (lst row g gg fs) := .mk { v with x17 := some (.d d) } row gg fs t due ⟨S.sg, S.mo, S.te, S.tl, S.rc, S.du, S.L, S.hr, S.F, S.sz⟩
    have nx : ∀ vs' st', LS g most (N + 1) vs' st' → loopF (.nm 17 p) (fun vs st Q => wpSs P0 (CW (n + 2)) (NW (n + 2)) bLo vs st Q) l vs' st' Q := fun vs' st' S' => ih (N + 1) vs' st' (by omega) S' q
    exact turn K G n N (by omega) most _ _ S' (Q := fun fl vs st => match fl with
      | .nx => loopF (.nm 17 p) (fun vs st Q => wpSs P0 (CW (n + 2)) (NW (n + 2)) bLo vs st Q) l vs st Q
      | .ct => loopF (.nm 17 p) (fun vs st Q => wpSs P0 (CW (n + 2)) (NW (n + 2)) bLo vs st Q) l vs st Q
      | .bk => Q .nx vs st
      | .rt v => Q (.rt v) vs st) nx nx
end Mn
end
section
namespace Mn
noncomputable def bSg : Ss := forB irL 4
noncomputable def sv (s0 : Option AV) (l : List D) (x5 x6 x7 x8 : Option AV) : Vars := [s0, some (.ob 0), some (.ob 1), some (.ob 6), some (.own l), x5, x6, x7, x8, none, none, none, none, none, none, none, none, none, none, none, none, none, none, none, none]
noncomputable def heights : List Int := [500, 499, 1000, 1200, 1]
noncomputable def tabC (c : Cl) (pre inf post : AO) : AO := match c with | .pre => pre | .inf => inf | .post => post
theorem hts : ∀ h ∈ heights, 1 ≤ h ∧ h ≤ 1200 := by decide
theorem ix_of {l : List D} {r : Int} (h0 : 0 ≤ r) (h1 : r < l.length) (hb : l.length ≤ 100) : ∃ d ∈ l, idxL l r d := by
  have h : r.toNat < l.length := by omega
  refine ⟨l[r.toNat], List.getElem_mem h, ?_⟩
  have := idx_nat (l := l) (i := r.toNat) (d := l[r.toNat]) (List.getElem?_eq_getElem h) (by omega)
  rw [Int.toNat_of_nonneg h0] at this
  exact this
noncomputable def ksD (ks : List Kd) : D := .lst (ks.map fun k => .str k.s)
noncomputable def sItem (w : List Nat) (ks : List Kd) : D := .tup [.str w, ksD ks]
noncomputable def sItC (w : String) (ks : List String) : D := .tup [.str (codes w), .lst (ks.map fun k => .str (codes k))]
noncomputable def sItems : List D := [sItem [45] [.yfx, .xfy, .xfx], sItem wF [.yfx, .xfy, .xfx], sItem [45] [.fy, .fx], sItem wF [.fy, .fx], sItem [126] [.yf, .xf], sItem wY [.yf, .xf]]
noncomputable def sItemsC : List D := [sItC "-" ["yfx", "xfy", "xfx"], sItC "foo" ["yfx", "xfy", "xfx"], sItC "-" ["fy", "fx"], sItC "foo" ["fy", "fx"], sItC "~" ["yf", "xf"], sItC "yes" ["yf", "xf"]]
theorem sI_eq : sItemsC = sItems := by
  obtain ⟨k1, k2, k3, k4, k5, k6, k7⟩ := kd_codes
  have ct : codes "~" = [126] := by kernel_rfl
  have e : ∀ (w : String) (w' : List Nat) (ks : List String) (ks' : List Kd), codes w = w' → ks.map codes = ks'.map Kd.s → sItC w ks = sItem w' ks' := by
    intro w w' ks ks' h1 h2
    unfold sItC sItem ksD
    have : (ks.map fun k => D.str (codes k)) = (ks.map codes).map .str := by rw [List.map_map]; rfl
    rw [h1, this, h2, List.map_map]; rfl
  unfold sItemsC sItems
  rw [e "-" [45] _ [.yfx, .xfy, .xfx] cM (by simp only [List.map, k1, k2, k3]; rfl), e "foo" wF _ [.yfx, .xfy, .xfx] cFY.1 (by simp only [List.map, k1, k2, k3]; rfl), e "-" [45] ["fy", "fx"] [.fy, .fx] cM (by simp only [List.map, k4, k5]; rfl), e "foo" wF ["fy", "fx"] [.fy, .fx] cFY.1 (by simp only [List.map, k4, k5]; rfl),
    e "~" [126] _ [.yf, .xf] ct (by simp only [List.map, k6, k7]; rfl), e "yes" wY _ [.yf, .xf] cFY.2.1 (by simp only [List.map, k6, k7]; rfl)]
variable {CW NW : Nat → CallT} (K : Wk CW NW)
include K
theorem sign_step (n : Nat) {row : List D} (hr : Rk row) (fs : List (List Int)) (tx tx' : List (List Nat)) (pre inf post : AO) (w : List Nat) (ks : List Kd) (c : Cl) (hks : ∀ k ∈ ks, k.cl = c) (hk0 : ks ≠ []) (hk : ks.length ≤ 3) (a : Nat)
    (hA : ∀ row, RC (CW (n + 3)) 3 [.ob 1, .d (.str w)] (bst (bY row tx fs pre inf post) []) (.d (.int a)) (bst (bY row tx' fs pre inf post) [])) (o : D → AO) (hD : ∀ v, DS (tabC c pre inf post) (.int a) v (o v)) (s0 : Option AV) (l : List D) (hl : l.length ≤ 10) (x7 x8 : Option AV) {Q : Fl → Vars → List AO → Prop}
    (H : ∀ (row' : List D) (h : Int) (k : Kd), Rk row' → hOk (h, k) → k.cl = c → Q .nx (sv s0 (l ++ [sgn w (h, k)]) (some (.d (.str w))) (some (.d (ksD ks))) (some (.d (.str k.s))) (some (.d (.int h)))) (bst ((bY row' tx' fs pre inf post).setTab (o (ent (h, k))) c) [])) :
    wpSs P0 (CW (n + 3)) (NW (n + 3)) bSg (sv s0 l (some (.d (.str w))) (some (.d (ksD ks))) x7 x8) (bst (bY row tx fs pre inf post) []) Q := by
  have hlk : (ks.map fun k => D.str k.s).length = ks.length := List.length_map _
  have hpos : 0 < ks.length := List.length_pos_iff.mpr hk0
  have hb := big_eq
  obtain ⟨r, row1, e, r0, r1, hr1⟩ := c_next K (n + 2) (ks.map fun k => D.str k.s).length (by rw [hlk]; omega) row hr ((bst (bY row tx fs pre inf post) []).tail)
  replace e : RC (CW (n + 3)) 48 [.ob 0, .d (.int (ks.map fun k => D.str k.s).length)] (bst (bY row tx fs pre inf post) []) (.d (.int r)) (bst (bY row1 tx fs pre inf post) []) := e
  obtain ⟨d, hd, hi⟩ := ix_of r0 r1 (by rw [hlk]; omega)
  obtain ⟨k, hkm, rfl⟩ := List.mem_map.mp hd
  obtain ⟨r2, row2, e2, q0, q1, hr2⟩ := c_next K (n + 2) 5 (by decide) row1 hr1 ((bst (bY row tx fs pre inf post) []).tail)
  replace e2 : RC (CW (n + 3)) 48 [.ob 0, .d (.int 5)] (bst (bY row1 tx fs pre inf post) []) (.d (.int r2)) (bst (bY row2 tx fs pre inf post) []) := e2
  obtain ⟨d2, hd2, hi2⟩ := ix_of (l := heights.map .int) q0 (by exact q1) (by decide)
  obtain ⟨h, hhm, rfl⟩ := List.mem_map.mp hd2
  have hc := hks k hkm
  have hh := hts h hhm
  subst hc
  have Z := H row2 h k hr2 hh rfl
  have A := c_add K n (bY row2 tx' fs pre inf post) [] k k.s rfl h (by omega) a (o (ent (h, k))) (by
    have := hD (ent (h, k))
    cases e : k.cl <;> (rw [e] at this; exact this))
  refine w_asg (fun Q' q => exB (.lenL (by rw [hlk]; omega)) (e _ (exI (.lst hi) q))) (by exact Nat.le_of_ble_eq_true rfl) ?_
  refine w_asg (fun Q' q => an (by decide) (e2 _ (exI (.lst hi2) q))) (by exact Nat.le_of_ble_eq_true rfl) ?_
  refine an bg3 (an (by omega) ?_)
  exact hA row2 _ (A _ Z)
theorem b_old (n : Nat) (tx : List (List Nat)) (fs : List (List Int)) (pre inf post : AO) (s : List Nat) (i : Nat) (hn : tx.Nodup) (h : tx[i]? = some s) (row : List D) : RC (CW (n + 1)) 3 [.ob 1, .d (.str s)] (bst (bY row tx fs pre inf post) []) (.d (.int i)) (bst (bY row tx fs pre inf post) []) :=
  y_atom_old K n row tx fs [.ins 1 [(4, .ob 1), (5, .ob 7), (6, .ob 8), (7, .ob 9)], pre, inf, post] s i hn h
theorem b_new (n : Nat) (tx : List (List Nat)) (fs : List (List Int)) (pre inf post : AO) (s : List Nat) (i : Nat) (h : s ∉ tx) (hi : tx.length = i) (hl : i ≤ big) (row : List D) : RC (CW (n + 1)) 3 [.ob 1, .d (.str s)] (bst (bY row tx fs pre inf post) []) (.d (.int i)) (bst (bY row (tx ++ [s]) fs pre inf post) []) := by
  subst hi
  exact y_atom_new K n row tx fs [.ins 1 [(4, .ob 1), (5, .ob 7), (6, .ob 8), (7, .ob 9)], pre, inf, post] s h hl
omit K in
theorem tx_f : wF ∉ tx0 ∧ [126] ∉ tx0 ++ [wF] ∧ wY ∉ tx0 ++ [wF] ++ [[126]] ∧ [98] ∉ tx3 ∧ (tx0 ++ [wF]).Nodup := by
  have h1 : decide (wF ∉ tx0 ∧ [126] ∉ tx0 ++ [wF] ∧ wY ∉ tx0 ++ [wF] ++ [[126]] ∧ [98] ∉ tx3 ∧ (tx0 ++ [wF]).Nodup) = true := by kernel_rfl
  exact of_decide_eq_true h1
noncomputable def mkSig (p1 p2 p3 p4 p5 p6 : Int × Kd) : Sig := ⟨fun i => if i = true then p2 else p1, fun i => if i = true then p4 else p3, fun i => if i = true then p6 else p5⟩
theorem sign_loop (n : Nat) {row : List D} (hr : Rk row) (s0 : Option AV) {Q : Fl → Vars → List AO → Prop} (p : Pos)
    (H : ∀ (g : Sig) (row' : List D) (x5 x6 x7 x8 : Option AV), GK g → Rk row' → Q .nx (sv s0 (sgL g) x5 x6 x7 x8) (bst (bY row' tx3 fs0 (gP g) (gI g) (gQ g)) [])) :
    loopF (.tp [(5, ⟨465, 8, 465, 12⟩), (6, ⟨465, 14, 465, 19⟩)] 0 p) (fun vs st Q => wpSs P0 (CW (n + 3)) (NW (n + 3)) bSg vs st Q) sItems (sv s0 [] none none none none) (bst (bY row tx0 fs0 .d0 (.dI [(7, .tup [.int 1000, .str Kd.xfy.s])]) .d0) []) Q := by
  have c1 : ∀ k ∈ [Kd.yfx, .xfy, .xfx], k.cl = .inf := by intro k hk; rcases hk with _ | ⟨_, _ | ⟨_, _ | ⟨_, hk⟩⟩⟩ <;> first | rfl | exact nomatch hk
  have c2 : ∀ k ∈ [Kd.fy, .fx], k.cl = .pre := by intro k hk; rcases hk with _ | ⟨_, _ | ⟨_, hk⟩⟩ <;> first | rfl | exact nomatch hk
  have c3 : ∀ k ∈ [Kd.yf, .xf], k.cl = .post := by intro k hk; rcases hk with _ | ⟨_, _ | ⟨_, hk⟩⟩ <;> first | rfl | exact nomatch hk
  obtain ⟨f1, f2, f3, f4, nd1⟩ := tx_f
  have a3 : tx0[3]? = some [45] := by kernel_rfl
  have a3' : (tx0 ++ [wF])[3]? = some [45] := by kernel_rfl
  have a29 : (tx0 ++ [wF])[29]? = some wF := by kernel_rfl
  have l0 : tx0.length = 29 := by kernel_rfl
  refine sign_step K n hr fs0 tx0 tx0 .d0 (.dI [(7, .tup [.int 1000, .str Kd.xfy.s])]) .d0 [45] [.yfx, .xfy, .xfx] .inf c1 (List.cons_ne_nil _ _) (by decide) 3 (b_old K (n + 2) _ _ _ _ _ _ 3 tx0_nd a3) (fun v => .dI [(7, .tup [.int 1000, .str Kd.xfy.s]), (3, v)]) (fun v => .i 3 v (by exact Nat.le_of_ble_eq_true rfl)) s0 [] (by decide) _ _ fun row1 h1 k1 R1 o1 e1 => ?_
  refine sign_step K n R1 fs0 tx0 (tx0 ++ [wF]) .d0 (.dI [(7, .tup [.int 1000, .str Kd.xfy.s]), (3, ent (h1, k1))]) .d0 wF [.yfx, .xfy, .xfx] .inf c1 (List.cons_ne_nil _ _) (by decide) 29 (b_new K (n + 2) _ _ _ _ _ _ 29 f1 l0 (by decide)) (fun v => .dI [(7, .tup [.int 1000, .str Kd.xfy.s]), (3, ent (h1, k1)), (29, v)]) (fun v => .i 29 v (by exact Nat.le_of_ble_eq_true rfl)) s0 [sgn [45] (h1, k1)] (by exact Nat.le_of_ble_eq_true rfl) _ _ fun row2 h2 k2 R2 o2 e2 => ?_
  refine sign_step K n R2 fs0 (tx0 ++ [wF]) (tx0 ++ [wF]) .d0 (.dI [(7, .tup [.int 1000, .str Kd.xfy.s]), (3, ent (h1, k1)), (29, ent (h2, k2))]) .d0 [45] [.fy, .fx] .pre c2 (List.cons_ne_nil _ _) (by decide) 3 (b_old K (n + 2) _ _ _ _ _ _ 3 nd1 a3') (fun v => .dI [(3, v)]) (fun v => .i0 3 v) s0 [sgn [45] (h1, k1), sgn wF (h2, k2)] (by exact Nat.le_of_ble_eq_true rfl) _ _ fun row3 h3 k3 R3 o3 e3 => ?_
  refine sign_step K n R3 fs0 (tx0 ++ [wF]) (tx0 ++ [wF]) (.dI [(3, ent (h3, k3))]) (.dI [(7, .tup [.int 1000, .str Kd.xfy.s]), (3, ent (h1, k1)), (29, ent (h2, k2))]) .d0 wF [.fy, .fx] .pre c2 (List.cons_ne_nil _ _) (by decide) 29 (b_old K (n + 2) _ _ _ _ _ _ 29 nd1 a29) (fun v => .dI [(3, ent (h3, k3)), (29, v)]) (fun v => .i 29 v (by exact Nat.le_of_ble_eq_true rfl)) s0 [sgn [45] (h1, k1), sgn wF (h2, k2), sgn [45] (h3, k3)] (by exact Nat.le_of_ble_eq_true rfl) _ _ fun row4 h4 k4 R4 o4 e4 => ?_
  refine sign_step K n R4 fs0 (tx0 ++ [wF]) (tx0 ++ [wF] ++ [[126]]) (.dI [(3, ent (h3, k3)), (29, ent (h4, k4))]) (.dI [(7, .tup [.int 1000, .str Kd.xfy.s]), (3, ent (h1, k1)), (29, ent (h2, k2))]) .d0 [126] [.yf, .xf] .post c3 (List.cons_ne_nil _ _) (by decide) 30 (b_new K (n + 2) _ _ _ _ _ _ 30 f2 (by kernel_rfl) (by decide)) (fun v => .dI [(30, v)]) (fun v => .i0 30 v) s0 [sgn [45] (h1, k1), sgn wF (h2, k2), sgn [45] (h3, k3), sgn wF (h4, k4)] (by exact Nat.le_of_ble_eq_true rfl) _ _ fun row5 h5 k5 R5 o5 e5 => ?_
  refine sign_step K n R5 fs0 (tx0 ++ [wF] ++ [[126]]) (tx0 ++ [wF] ++ [[126]] ++ [wY]) (.dI [(3, ent (h3, k3)), (29, ent (h4, k4))]) (.dI [(7, .tup [.int 1000, .str Kd.xfy.s]), (3, ent (h1, k1)), (29, ent (h2, k2))]) (.dI [(30, ent (h5, k5))]) wY [.yf, .xf] .post c3 (List.cons_ne_nil _ _) (by decide) 31 (b_new K (n + 2) _ _ _ _ _ _ 31 f3 (by kernel_rfl) (by decide)) (fun v => .dI [(30, ent (h5, k5)), (31, v)]) (fun v => .i 31 v (by exact Nat.le_of_ble_eq_true rfl)) s0 [sgn [45] (h1, k1), sgn wF (h2, k2), sgn [45] (h3, k3), sgn wF (h4, k4), sgn [126] (h5, k5)] (by exact Nat.le_of_ble_eq_true rfl) _ _ fun row6 h6 k6 R6 o6 e6 => ?_
  have et : tx0 ++ [wF] ++ [[126]] ++ [wY] = tx3 := by unfold tx3; rw [List.append_assoc, List.append_assoc]; rfl
  rw [et]
  refine H (mkSig (h1, k1) (h2, k2) (h3, k3) (h4, k4) (h5, k5) (h6, k6)) row6 _ _ _ _ ⟨⟨?_, ?_, ?_⟩, ?_, ?_, ?_⟩ R6 <;> (intro i; cases i <;> assumption)
end Mn
end
section
namespace Mn
noncomputable def txi (gg : Bool) (i : Nat) : List Nat := if i = 33 then [103] else (txL gg).getD i []
noncomputable def cxF (g : Sig) (gg : Bool) (fs : List (List Int)) : Cx := ⟨txi gg, fun f => (match fs[f]? with | some (a :: _) => a.toNat | _ => 0),
  fun i => if i = 3 then some (g.pre false) else if i = 29 then some (g.pre true) else none,
  fun i => if i = 7 then some (1000, .xfy) else if i = 3 then some (g.inf false) else if i = 29 then some (g.inf true) else none,
  fun i => if i = 30 then some (g.post false) else if i = 31 then some (g.post true) else none⟩
noncomputable def gA0 (gg : Bool) (i : Nat) : Prop := i ∈ [0, 3, 29, 30, 31, 32] ∨ (i = 33 ∧ gg = true)
noncomputable def gF0 (gg : Bool) (fs : List (List Int)) (f : Nat) : Prop := ∃ a, okF (fs.map fD) f a ∧ gA0 gg a
theorem okF_at {fs : List (List Int)} {f a : Nat} (h : okF (fs.map fD) f a) : ∃ y, fs[f]? = some [(a : Int), y] := by
  obtain ⟨_, _, _, ar, e⟩ := h
  rw [List.getElem?_map] at e
  cases h : fs[f]? with
  | none => rw [h] at e; exact nomatch e
  | some l =>
    rw [h] at e
    match l, e with
    | [x, y], e =>
      have e : some (D.tup [.int x, .int y]) = some (.tup [.int a, ar]) := e
      injection e with e
      injection e with e
      injection e with e _
      injection e with e
      exact ⟨y, by rw [e]⟩
    | [], e => exact nomatch e
    | [_], e => exact nomatch e
    | _ :: _ :: _ :: _, e => exact nomatch e
theorem fn_of {g : Sig} {gg : Bool} {fs : List (List Int)} {f a : Nat} (h : okF (fs.map fD) f a) : (cxF g gg fs).fn f = a := by
  obtain ⟨y, e⟩ := okF_at h
  show (match fs[f]? with | some (a :: _) => a.toNat | _ => 0) = a
  rw [e]; rfl
noncomputable def chk (gg : Bool) (i : Nat) : Bool := decide ((txL gg)[i]? = some (txi gg i)) && (decide (txi gg i ≠ []) && (decide ((txi gg i).length ≤ 1000) && plainN (txi gg i)))
theorem chk_ok : ∀ i ∈ [0, 3, 29, 30, 31, 32], chk false i = true ∧ chk true i = true := by
  have : ([0, 3, 29, 30, 31, 32].all fun i => chk false i && chk true i) = true := by kernel_rfl
  intro i hi
  exact Bool.and_eq_true_iff.mp (List.all_eq_true.mp this i hi)
theorem chk_33 : chk true 33 = true := by kernel_rfl
theorem wt_of {t : List Nat} (h : t ≠ []) (hl : t.length ≤ 1000) : Wt t (t.headD 0) (t.getLastD 0) := by
  refine ⟨?_, ?_⟩
  · cases t with
    | nil => exact absurd rfl h
    | cons x r => exact ⟨r, rfl⟩
  · rcases List.eq_nil_or_concat t with rfl | ⟨u, c, rfl⟩
    · exact absurd rfl h
    · rw [List.concat_eq_append] at hl ⊢
      rw [ap1] at hl
      exact ⟨u, by rw [gl_app u (List.cons_ne_nil c [])]; rfl, hl⟩
theorem dgI {es : List (Int × D)} {i : Int} {r : Option D} (h : aget es i = r) : DG (.dI es) (.int i) r := h ▸ .i es i
theorem get_if {x : Int} {d : D} {l : List (Int × D)} (i : Nat) (n : Nat) (hx : x = n) {r : Option D} (h : aget l (i : Int) = r) : aget ((x, d) :: l) (i : Int) = if i = n then some d else r := by
  subst hx
  show (if (n : Int) = (i : Int) then some d else aget l i) = _
  by_cases c : i = n
  · rw [if_pos c, if_pos (by omega)]
  · rw [if_neg c, if_neg (by omega), h]
theorem map_if {α β : Type} {c : Prop} [Decidable c] (f : α → β) (x y : Option α) : (if c then x else y).map f = if c then x.map f else y.map f := by
  by_cases h : c
  · rw [if_pos h, if_pos h]
  · rw [if_neg h, if_neg h]
theorem ok_F (g : Sig) (gg : Bool) (row : List D) (fs : List (List Int)) {N : Nat} (F : FsOk gg fs N) (hN : N ≤ 5000) : Ok (cxF g gg fs) (bY row (txL gg) fs (gP g) (gI g) (gQ g)) (gA0 gg) (gF0 gg fs) := by
  refine ⟨fun i hi => ?_, fun f hf => ?_, fun i => dgI ?_, fun i => dgI ?_, fun i => dgI ?_⟩
  · have hc : chk gg i = true := by
      rcases hi with hi | ⟨rfl, rfl⟩
      · cases gg
        · exact (chk_ok i hi).1
        · exact (chk_ok i hi).2
      · exact chk_33
    have h33 : i < 4294967296 := by
      rcases hi with hi | ⟨rfl, _⟩
      · have : ∀ i ∈ [0, 3, 29, 30, 31, 32], i < 4294967296 := by decide
        exact this i hi
      · decide
    unfold chk at hc
    simp only [Bool.and_eq_true, decide_eq_true_eq] at hc
    refine ⟨?_, wt_of hc.2.1 hc.2.2.1, hc.2.2.2, h33⟩
    show ((txL gg).map D.str)[i]? = some (.str (txi gg i))
    rw [List.getElem?_map, hc.1]; rfl
  · obtain ⟨a, o, ga⟩ := hf
    have e := fn_of (g := g) (gg := gg) o
    rw [e]
    obtain ⟨_, h0, h9, ar, h⟩ := o
    have hl := (List.getElem?_eq_some_iff.mp h).1
    rw [List.length_map] at hl
    have := F.ln
    exact ⟨⟨ar, h⟩, by omega, h0, h9, ga⟩
  · show aget [(3, ent (g.pre false)), (29, ent (g.pre true))] (i : Int) = _
    refine (get_if i 3 rfl (get_if i 29 rfl rfl)).trans ?_
    show _ = (if i = 3 then some (g.pre false) else if i = 29 then some (g.pre true) else none).map tb
    rw [map_if, map_if]; rfl
  · show aget [(7, .tup [.int 1000, .str Kd.xfy.s]), (3, ent (g.inf false)), (29, ent (g.inf true))] (i : Int) = _
    refine (get_if i 7 rfl (get_if i 3 rfl (get_if i 29 rfl rfl))).trans ?_
    show _ = (if i = 7 then some (1000, .xfy) else if i = 3 then some (g.inf false) else if i = 29 then some (g.inf true) else none).map tb
    rw [map_if, map_if, map_if]; rfl
  · show aget [(30, ent (g.post false)), (31, ent (g.post true))] (i : Int) = _
    refine (get_if i 30 rfl (get_if i 31 rfl rfl)).trans ?_
    show _ = (if i = 30 then some (g.post false) else if i = 31 then some (g.post true) else none).map tb
    rw [map_if, map_if]; rfl
theorem ag_F (g : Sig) (gg : Bool) (fs : List (List Int)) {N : Nat} (F : FsOk gg fs N) : Ag g (fs.map fD) (cxF g gg fs) (gA0 gg) (gF0 gg fs) where
  txF i := by
    have h := txL_F gg i
    have e : txi gg (aF i) = (txL gg).getD (aF i) [] := by cases i <;> rfl
    show txi gg (aF i) = _
    rw [e, List.getD_eq_getElem?_getD, h]; rfl
  txP i := by
    have h := txL_P gg i
    have e : txi gg (aP i) = (txL gg).getD (aP i) [] := by cases i <;> rfl
    show txi gg (aP i) = _
    rw [e, List.getD_eq_getElem?_getD, h]; rfl
  txb := by
    have h := (txL_at gg).2.2.2.2
    show (txL gg).getD 32 [] = [98]
    rw [List.getD_eq_getElem?_getD, h]; rfl
  txg := rfl
  inf i := by cases i <;> rfl
  pre i := by cases i <;> rfl
  post i := by cases i <;> rfl
  preP i := by cases i <;> rfl
  no i h := by rcases h with rfl | rfl | rfl <;> exact ⟨rfl, rfl, rfl⟩
  ga := ⟨.inl (by decide), .inl (by decide)⟩
  fn f a o := ⟨fn_of o, a, o, by
    by_cases h : a = 33
    · subst h
      refine .inr ⟨rfl, ?_⟩
      cases gg with
      | true => rfl
      | false =>
        obtain ⟨y, e⟩ := okF_at o
        exact absurd (List.mem_of_getElem? e) (F.n33 rfl y)
    · have : ∀ a ∈ [3, 29, 30, 31, 33], a ≠ 33 → a ∈ [0, 3, 29, 30, 31, 32] := by decide
      exact .inl (this a o.1 h)⟩
end Mn
end
section
namespace Mn
theorem te_due (d : Due) : ∃ b, TE (shV d) (duD d) b ∧ b = true := by
  cases d with
  | none => exact ⟨true, .flat .nn, rfl⟩
  | some p =>
    obtain ⟨j, h, k⟩ := p
    refine ⟨_, .tup (.cc (.ss _ _) (.cc (.ii _ _) (.cc (.ss _ _) .nn))), ?_⟩
    rw [beq_self_eq_true, beq_self_eq_true, beq_self_eq_true]; rfl
noncomputable def wi : Wx := ⟨13, 14, [], false, [.d0, .d0, .lst [], .lst []]⟩
noncomputable def mosts : List Int := [1201, 1200, 999, 500, 0]
theorem mosts_ok : ∀ m ∈ mosts, 0 ≤ m := by decide
variable {CW NW : Nat → CallT} (K : Wk CW NW)
include K
theorem law_end (n N : Nat) (hN : N ≤ 100) {g : Sig} (G : GK g) (most : Int) (hm : 0 ≤ most) (vs : Vars) (st : List AO) (S : LS g most N vs st) {Q : Fl → Vars → List AO → Prop} (q : ∀ vs st, Q (.rt (.d (.boo true))) vs st) :
    wpSs P0 (CW (n + 9)) (NW (n + 9)) (dropB 15 irL) vs st Q := by
  obtain ⟨v, row, gg, fs, t, due, hsg, hmo, ht, htl, hrc, hdu, L, hr, F, hz⟩ := S
  have ok := ok_F g gg row fs F (by omega)
  have ag := ag_F g gg fs F
  obtain ⟨wf, sh, em, tl⟩ := L.at_ _ _ _ ag
  have E := em most ([], [], false) hm
  have ln := L.ln
  have hw : v.w.length ≤ 100000 := by omega
  have hd := held_len (decide (most < tallD due)) v.w
  have eq : flat (rn (cxF g gg fs) t false most ([], [], false)).1 = held (decide (most < v.tl)) v.w := by rw [E.1, htl]; rfl
  obtain ⟨b, te, rfl⟩ := te_due due
  have hsh := shape_x K ok (n + 6) t wf wi
  rw [sh, ← ht] at hsh
  rw [← hdu] at te
  refine w_asg (fun Q' q => c_writer K (n + 7) (bY row (txL gg) fs (gP g) (gI g) (gQ g)) q) (by exact Nat.le_of_ble_eq_true rfl) ?_
  refine hsh _ (exC (.d (.eq te)) ?_)
  rw [← hmo] at eq E
  have hz' : t.sz ≤ 2000 := by omega
  have ct := fun (Q : AV → List AO → Prop) q => c_text (Q := Q) K ok n t wf hz' v.most q
  simp only [← ht, eq] at ct
  refine ct _ (exC (.d (.gt _ _)) (c_held K (n + 8) v.w _ hw _ _ (exC CD.eqS ?_)))
  rw [beq_self_eq_true]
  exact q _ _
theorem law_mid (n : Nat) {g : Sig} (G : GK g) {row : List D} (hr : Rk row) (s0 x5 x6 x7 x8 : Option AV) {Q : Fl → Vars → List AO → Prop} (q : ∀ vs st, Q (.rt (.d (.boo true))) vs st) :
    wpSs P0 (CW (n + 9)) (NW (n + 9)) (dropB 5 irL) (sv s0 (sgL g) x5 x6 x7 x8) (bst (bY row tx3 fs0 (gP g) (gI g) (gQ g)) []) Q := by
  obtain ⟨r, row1, e, r0, r5, R1⟩ := c_next K (n + 8) 5 (by decide) row hr ((bst (bY row tx3 fs0 (gP g) (gI g) (gQ g)) []).tail)
  replace e : RC (CW (n + 9)) 48 [.ob 0, .d (.int 5)] (bst (bY row tx3 fs0 (gP g) (gI g) (gQ g)) []) (.d (.int r)) (bst (bY row1 tx3 fs0 (gP g) (gI g) (gQ g)) []) := e
  obtain ⟨d, hd, hi⟩ := ix_of (l := mosts.map .int) r0 (by exact r5) (by decide)
  obtain ⟨most, hm, rfl⟩ := List.mem_map.mp hd
  have A := b_new K (n + 8) tx3 fs0 (gP g) (gI g) (gQ g) [98] 32 tx_f.2.2.2.1 (by kernel_rfl) (by decide) row1
  rw [← cb6.2.2.1] at A
  have et : tx3 ++ [codes "b"] = txL false := by kernel_rfl
  rw [et] at A
  obtain ⟨r2, row2, e2, q0, q1, R2⟩ := l_next K g false row1 fs0 (n + 8) 40 (by decide) R1
  have S : LS g most 0 { s0 := s0, x5 := x5, x6 := x6, x7 := x7, x8 := x8, sg := sgL g, most := most, t := tA 32, w := [98], tl := 0, rc := 0, ls := false, du := .non, x17 := none, x18 := none, x19 := none, x20 := none, x21 := none, x22 := none, x23 := none : V }.vs (lst row2 g false fs0) :=
    .mk _ row2 false fs0 (.a 32) none ⟨rfl, rfl, rfl, rfl, rfl, rfl, li_leaf, R2, ⟨fun _ r => by
      have : ∀ l ∈ fs0, l.headD 0 ≠ 33 := by
        have h : decide (∀ l ∈ fs0, l.headD 0 ≠ 33) = true := by kernel_rfl
        exact of_decide_eq_true h
      exact fun c => this _ c rfl, fs0_nd, by decide, by kernel_rfl, by kernel_rfl⟩, Nat.le_refl _⟩
  have E : wpSs P0 (CW (n + 9)) (NW (n + 9)) (dropB 14 irL) { s0 := s0, x5 := x5, x6 := x6, x7 := x7, x8 := x8, sg := sgL g, most := most, t := tA 32, w := [98], tl := 0, rc := 0, ls := false, du := .non, x17 := none, x18 := none, x19 := none, x20 := none, x21 := none, x22 := none, x23 := none : V }.vs (lst row1 g false fs0) Q := by
    refine e2 _ (exO (.add _ _) ?_)
    refine exF (.range (by omega)) ?_
    refine turns K G (n + 7) most _ _ 0 _ _ ?_ S fun vs st M hM S => law_end K n M hM G most (mosts_ok _ hm) vs st S q
    rw [List.length_map, List.length_range]; omega
  rw [tA_c] at E
  have cw : [98] = codes "b" := cb6.2.2.1.symm
  show wpSs P0 (CW (n + 9)) (NW (n + 9)) (dropB 6 irL) [s0, some (.ob 0), some (.ob 1), some (.ob 6), some (.d (.lst (sgL g))), x5, x6, x7, x8, none, none, none, none, none, none, none, none, none, none, none, none, none, none, none, none] (bst (bY row tx3 fs0 (gP g) (gI g) (gQ g)) []) Q
  refine w_asg (fun Q' q => an (by decide) (e _ (exI (.lst hi) q))) (by exact Nat.le_of_ble_eq_true rfl) ?_
  refine w_asg (fun Q' q => A _ (an bg2 q)) (by exact Nat.le_of_ble_eq_true rfl) ?_
  iterate 6 refine w_asg (fun Q' q => q) (by exact Nat.le_of_ble_eq_true rfl) ?_
  rw [← cw]
  exact E
end Mn
end
section
namespace Mn
theorem run03 {CW NW : Nat → CallT} (K : Wk CW NW) (n : Nat) (ns : List Int) (hn : ns.length ≤ 63) : wpSs P0 (CW (n + 9)) (NW (n + 9)) irL (lawVars nsL ns) [] fun fl _ _ => fl = .rt (.d (.boo true)) := by
  have A : ∀ row, Rk row → wpSs P0 (CW (n + 9)) (NW (n + 9)) (dropB 4 irL) (sv (some (.d (.lst (ns.map .int)))) [] none none none none) (bst (bY row tx0 fs0 .d0 (.dI [(7, .tup [.int 1000, .str Kd.xfy.s])]) .d0) []) fun fl _ _ => fl = .rt (.d (.boo true)) := by
    intro row R
    refine an bg3 (an bg2 (an bg3 (an bg2 (an bg2 (an bg2 (an bg2 (an bg2 (an bg2 (an bg2 (an bg2 (an bg2 (an bg6 ?_))))))))))))
    show ∃ l, ItR .over (.d (.lst sItemsC)) l ∧ _
    rw [sI_eq]
    refine exF (.lst bg6) ?_
    exact sign_loop K (n + 6) R _ _ fun g row' x5 x6 x7 x8 G R' => law_mid K n G R' _ x5 x6 x7 x8 fun _ _ => rfl
  show wpSs P0 (CW (n + 9)) (NW (n + 9)) irL [some (.d (.lst (ns.map .int))), none, none, none, none, none, none, none, none, none, none, none, none, none, none, none, none, none, none, none, none, none, none, none, none] [] _
  refine c_row K (n + 8) ns hn fun row R => ?_
  show wpSs P0 (CW (n + 9)) (NW (n + 9)) (dropB 1 irL) [some (.d (.lst (ns.map .int))), some (.ob 0), none, none, none, none, none, none, none, none, none, none, none, none, none, none, none, none, none, none, none, none, none, none, none] [.lst row] _
  refine w_asg (fun Q' q => c_symbols K (n + 5) row q) (by exact Nat.le_of_ble_eq_true rfl) ?_
  refine w_asg (fun Q' q => c_tab K (n + 4) row tx0 fs0 q) (by exact Nat.le_of_ble_eq_true rfl) ?_
  exact an (by exact Nat.le_of_ble_eq_true rfl) (A row R)
end Mn
end
section
namespace Mn
abbrev so := PySem.Str.ofString
abbrev PR : Program := PySem.Challenge.rw_sa0155_03.row.toRowW.1
noncomputable def B0 : List Stmt := PySem.Challenge.pw_sa0155_03.main.body
noncomputable def nS (l : List Stmt) (i : Nat) : Stmt := l.getD i (.Pass ⟨0, 0, 0, 0⟩)
noncomputable def fB : Stmt → List Stmt | .FunctionDef _ _ b _ _ _ _ _ _ _ => b | .ClassDef _ _ _ b _ _ _ _ _ _ _ => b | _ => []
noncomputable def fA : Stmt → Arguments | .FunctionDef _ a _ _ _ _ _ _ _ _ => a | _ => ⟨[], [], none, [], [], none, []⟩
noncomputable def fS : Stmt → Scope | .FunctionDef _ _ _ _ _ _ s _ _ _ => s | _ => ⟨.function, [], false, false, []⟩
noncomputable def ho43 (P : Params) : Obj := ⟨(.type "tuple"), none, (.seq (#[]) 0), (#[])⟩
noncomputable def ho44 (P : Params) : Obj := ⟨.none, none, (.fields (#[])), (#[])⟩
noncomputable def ho45 (P : Params) : Obj := ⟨(.type "code"), none, (.fields (#[(.str (so "<module>") 182), (.str (so "<module>") 183), (.str (so "/claim/cut.py") 184), (.int 1 0), (.int 0 0), (.int 0 0), (.int 0 0), (.int 0 0), (.ref 11), (.bool false), (.int 181 0), (.ref 12), .none, .none, .none, .none, (.int 185 0), (.int 1 0), (.str (so "/claim/cut.py") 186)])), (#[])⟩
noncomputable def ho46 (P : Params) : Obj := ⟨(.type "frame"), none, .plain, (#[(some (.ref 13)), (some (.ref 3)), (some (.ref 3)), none, (some (.str (so "__main__") 164)), none, (some (.ref 0))])⟩
noncomputable def ho49 (P : Params) : Obj := ⟨(.type "dict"), none, (.dict (#[⟨(PyData.keyHash P (so "__name__")), (.str (so "__name__") 165), (.str (so "clausemill.symbols") 194)⟩, ⟨(PyData.keyHash P (so "__doc__")), (.str (so "__doc__") 166), .none⟩, ⟨(PyData.keyHash P (so "__package__")), (.str (so "__package__") 167), .none⟩, ⟨(PyData.keyHash P (so "__loader__")), (.str (so "__loader__") 168), (.builtin "__main__.__loader__#opaque")⟩, ⟨(PyData.keyHash P (so "__spec__")), (.str (so "__spec__") 169), .none⟩, ⟨(PyData.keyHash P (so "__annotations__")), (.str (so "__annotations__") 170), (.ref 6)⟩, ⟨(PyData.keyHash P (so "__builtins__")), (.str (so "__builtins__") 171), (.ref 4)⟩, ⟨(PyData.keyHash P (so "__file__")), (.str (so "__file__") 173), (.str (so "/claim/cut.py") 172)⟩, ⟨(PyData.keyHash P (so "__cached__")), (.str (so "__cached__") 174), .none⟩, ⟨(PyData.keyHash P (so "_wall")), (.str (so "_wall") 193), (.ref 21)⟩, ⟨(PyData.keyHash P (so "A_NIL")), (.str (so "A_NIL") 197), (.int (0 : Int) 196)⟩, ⟨(PyData.keyHash P (so "A_MINUS")), (.str (so "A_MINUS") 199), (.int (3 : Int) 198)⟩, ⟨(PyData.keyHash P (so "A_COMMA")), (.str (so "A_COMMA") 201), (.int (7 : Int) 200)⟩, ⟨(PyData.keyHash P (so "A_BAR")), (.str (so "A_BAR") 203), (.int (8 : Int) 202)⟩, ⟨(PyData.keyHash P (so "F_DOT")), (.str (so "F_DOT") 205), (.int (0 : Int) 204)⟩, ⟨(PyData.keyHash P (so "F_CURLY")), (.str (so "F_CURLY") 207), (.int (9 : Int) 206)⟩, ⟨(PyData.keyHash P (so "F_VARNAME")), (.str (so "F_VARNAME") 209), (.int (17 : Int) 208)⟩, ⟨(PyData.keyHash P (so "fixed_atoms")), (.str (so "fixed_atoms") 215), (.ref 28)⟩, ⟨(PyData.keyHash P (so "fixed_functors")), (.str (so "fixed_functors") 221), (.ref 35)⟩]) 19), (#[])⟩
noncomputable def ho50 (P : Params) : Obj := ⟨.none, none, (.fields (#[(.int 1 0), (.int 0 0), (.ref 20), (.int 12 0), (.int 0 0), (.ref 27), (.int 14 0), (.int 0 0), (.ref 34)])), (#[])⟩
noncomputable def ho53 (P : Params) : Obj := ⟨(.type "tuple"), none, (.seq (#[(.str (so "k") 190)]) 0), (#[])⟩
noncomputable def ho55 (P : Params) : Obj := ⟨.none, none, (.func ⟨(so "_wall"), (so "_wall"), fA (nS B0 0), .stmts (fB (nS B0 0)), fS (nS B0 0), 0, [], .none, .none, .none, .none, none, .none, .none, 0⟩), (#[])⟩
noncomputable def ho56 (P : Params) : Obj := ⟨(.type "code"), none, (.fields (#[(.str (so "_wall") 187), (.str (so "_wall") 188), (.str (so "/claim/cut.py") 189), (.int 1 0), (.int 1 0), (.int 0 0), (.int 0 0), (.int 3 0), (.ref 15), (.bool true), (.int 181 0), (.ref 16), .none, (.ref 17), (.ref 18), (.ref 19), (.int 191 0), (.int 1 0), (.str (so "/claim/cut.py") 192)])), (#[])⟩
noncomputable def ho57 (P : Params) : Obj := ⟨(.type "function"), none, (.func ⟨(so "_wall"), (so "_wall"), fA (nS B0 0), .stmts (fB (nS B0 0)), fS (nS B0 0), 3, [], .none, .none, .none, (.str (so "__main__") 164), none, (.ref 20), .none, 0⟩), (#[])⟩
noncomputable def ho62 (P : Params) : Obj := ⟨.none, none, (.func ⟨(so "fixed_atoms"), (so "fixed_atoms"), fA (nS B0 9), .stmts (fB (nS B0 9)), fS (nS B0 9), 0, [], .none, .none, .none, .none, none, .none, .none, 0⟩), (#[])⟩
noncomputable def ho63 (P : Params) : Obj := ⟨(.type "code"), none, (.fields (#[(.str (so "fixed_atoms") 210), (.str (so "fixed_atoms") 211), (.str (so "/claim/cut.py") 212), (.int 12 0), (.int 0 0), (.int 0 0), (.int 0 0), (.int 3 0), (.ref 22), (.bool true), (.int 181 0), (.ref 23), .none, (.ref 24), (.ref 25), (.ref 26), (.int 213 0), (.int 12 0), (.str (so "/claim/cut.py") 214)])), (#[])⟩
noncomputable def ho64 (P : Params) : Obj := ⟨(.type "function"), none, (.func ⟨(so "fixed_atoms"), (so "fixed_atoms"), fA (nS B0 9), .stmts (fB (nS B0 9)), fS (nS B0 9), 3, [], .none, .none, .none, (.str (so "clausemill.symbols") 194), none, (.ref 27), .none, 0⟩), (#[])⟩
noncomputable def ho69 (P : Params) : Obj := ⟨.none, none, (.func ⟨(so "fixed_functors"), (so "fixed_functors"), fA (nS B0 10), .stmts (fB (nS B0 10)), fS (nS B0 10), 0, [], .none, .none, .none, .none, none, .none, .none, 0⟩), (#[])⟩
noncomputable def ho70 (P : Params) : Obj := ⟨(.type "code"), none, (.fields (#[(.str (so "fixed_functors") 216), (.str (so "fixed_functors") 217), (.str (so "/claim/cut.py") 218), (.int 14 0), (.int 0 0), (.int 0 0), (.int 0 0), (.int 3 0), (.ref 29), (.bool true), (.int 181 0), (.ref 30), .none, (.ref 31), (.ref 32), (.ref 33), (.int 219 0), (.int 14 0), (.str (so "/claim/cut.py") 220)])), (#[])⟩
noncomputable def ho71 (P : Params) : Obj := ⟨(.type "function"), none, (.func ⟨(so "fixed_functors"), (so "fixed_functors"), fA (nS B0 10), .stmts (fB (nS B0 10)), fS (nS B0 10), 3, [], .none, .none, .none, (.str (so "clausemill.symbols") 194), none, (.ref 34), .none, 0⟩), (#[])⟩
noncomputable def ho72 (P : Params) : Obj := ⟨(.type "dict"), none, (.dict (#[⟨(PyData.keyHash P (so "__name__")), (.str (so "__name__") 165), (.str (so "clausemill.symbols") 194)⟩, ⟨(PyData.keyHash P (so "__doc__")), (.str (so "__doc__") 166), .none⟩, ⟨(PyData.keyHash P (so "__package__")), (.str (so "__package__") 167), .none⟩, ⟨(PyData.keyHash P (so "__loader__")), (.str (so "__loader__") 168), (.builtin "__main__.__loader__#opaque")⟩, ⟨(PyData.keyHash P (so "__spec__")), (.str (so "__spec__") 169), .none⟩, ⟨(PyData.keyHash P (so "__annotations__")), (.str (so "__annotations__") 170), (.ref 6)⟩, ⟨(PyData.keyHash P (so "__builtins__")), (.str (so "__builtins__") 171), (.ref 4)⟩, ⟨(PyData.keyHash P (so "__file__")), (.str (so "__file__") 173), (.str (so "/claim/cut.py") 172)⟩, ⟨(PyData.keyHash P (so "__cached__")), (.str (so "__cached__") 174), .none⟩, ⟨(PyData.keyHash P (so "_wall")), (.str (so "_wall") 193), (.ref 21)⟩, ⟨(PyData.keyHash P (so "A_NIL")), (.str (so "A_NIL") 197), (.int (0 : Int) 196)⟩, ⟨(PyData.keyHash P (so "A_MINUS")), (.str (so "A_MINUS") 199), (.int (3 : Int) 198)⟩, ⟨(PyData.keyHash P (so "A_COMMA")), (.str (so "A_COMMA") 201), (.int (7 : Int) 200)⟩, ⟨(PyData.keyHash P (so "A_BAR")), (.str (so "A_BAR") 203), (.int (8 : Int) 202)⟩, ⟨(PyData.keyHash P (so "F_DOT")), (.str (so "F_DOT") 205), (.int (0 : Int) 204)⟩, ⟨(PyData.keyHash P (so "F_CURLY")), (.str (so "F_CURLY") 207), (.int (9 : Int) 206)⟩, ⟨(PyData.keyHash P (so "F_VARNAME")), (.str (so "F_VARNAME") 209), (.int (17 : Int) 208)⟩, ⟨(PyData.keyHash P (so "fixed_atoms")), (.str (so "fixed_atoms") 215), (.ref 28)⟩, ⟨(PyData.keyHash P (so "fixed_functors")), (.str (so "fixed_functors") 221), (.ref 35)⟩, ⟨(PyData.keyHash P (so "Symbols")), (.str (so "Symbols") 340), (.ref 122)⟩]) 20), (#[])⟩
noncomputable def ho73 (P : Params) : Obj := ⟨.none, none, (.fields (#[(.int 1 0), (.int 0 0), (.ref 20), (.int 12 0), (.int 0 0), (.ref 27), (.int 14 0), (.int 0 0), (.ref 34), (.int 16 0), (.int 0 0), (.ref 41)])), (#[])⟩
noncomputable def ho75 (P : Params) : Obj := ⟨(.type "builtin_function_or_method"), none, (.fields (#[(.builtin "type.__prepare__"), (.type "type")])), (#[])⟩
noncomputable def ho76 (P : Params) : Obj := ⟨(.type "dict"), none, (.dict (#[⟨(PyData.keyHash P (so "__module__")), (.str (so "__module__") 229), (.str (so "clausemill.symbols") 194)⟩, ⟨(PyData.keyHash P (so "__qualname__")), (.str (so "__qualname__") 231), (.str (so "Symbols") 230)⟩, ⟨(PyData.keyHash P (so "__firstlineno__")), (.str (so "__firstlineno__") 233), (.int (16 : Int) 232)⟩, ⟨(PyData.keyHash P (so "__init__")), (.str (so "__init__") 242), (.ref 49)⟩, ⟨(PyData.keyHash P (so "atom")), (.str (so "atom") 252), (.ref 56)⟩, ⟨(PyData.keyHash P (so "text")), (.str (so "text") 260), (.ref 63)⟩, ⟨(PyData.keyHash P (so "functor")), (.str (so "functor") 272), (.ref 70)⟩, ⟨(PyData.keyHash P (so "func")), (.str (so "func") 281), (.ref 77)⟩, ⟨(PyData.keyHash P (so "name")), (.str (so "name") 289), (.ref 84)⟩, ⟨(PyData.keyHash P (so "arity")), (.str (so "arity") 297), (.ref 91)⟩, ⟨(PyData.keyHash P (so "label")), (.str (so "label") 305), (.ref 98)⟩, ⟨(PyData.keyHash P (so "count")), (.str (so "count") 312), (.ref 105)⟩, ⟨(PyData.keyHash P (so "functor_count")), (.str (so "functor_count") 319), (.ref 112)⟩, ⟨(PyData.keyHash P (so "known")), (.str (so "known") 328), (.ref 119)⟩, ⟨(PyData.keyHash P (so "__static_attributes__")), (.str (so "__static_attributes__") 333), (.ref 120)⟩]) 15), (#[])⟩
noncomputable def ho78 (P : Params) : Obj := ⟨.none, none, (.fields (#[(.int 18 0), (.int 4 0), (.ref 48), (.int 28 0), (.int 4 0), (.ref 55), (.int 37 0), (.int 4 0), (.ref 62), (.int 40 0), (.int 4 0), (.ref 69), (.int 50 0), (.int 4 0), (.ref 76), (.int 53 0), (.int 4 0), (.ref 83), (.int 56 0), (.int 4 0), (.ref 90), (.int 59 0), (.int 4 0), (.ref 97), (.int 62 0), (.int 4 0), (.ref 104), (.int 65 0), (.int 4 0), (.ref 111), (.int 68 0), (.int 4 0), (.ref 118)])), (#[])⟩
noncomputable def ho79 (P : Params) : Obj := ⟨(.type "code"), none, (.fields (#[(.str (so "Symbols") 224), (.str (so "Symbols") 225), (.str (so "/claim/cut.py") 226), (.int 16 0), (.int 0 0), (.int 0 0), (.int 0 0), (.int 0 0), (.ref 39), (.bool false), (.int 181 0), (.ref 40), .none, .none, .none, .none, (.int 227 0), (.int 16 0), (.str (so "/claim/cut.py") 228)])), (#[])⟩
noncomputable def ho80 (P : Params) : Obj := ⟨(.type "frame"), none, .plain, (#[(some (.ref 41)), (some (.ref 3)), (some (.ref 38)), none, (some (.str (so "clausemill.symbols") 194)), none, (some (.ref 0))])⟩
noncomputable def ho83 (P : Params) : Obj := ⟨(.type "tuple"), none, (.seq (#[(.str (so "self") 237), (.str (so "text") 238), (.str (so "row") 239)]) 0), (#[])⟩
noncomputable def ho85 (P : Params) : Obj := ⟨.none, none, (.func ⟨(so "__init__"), (so "Symbols.__init__"), fA (nS (fB (nS B0 11)) 0), .stmts (fB (nS (fB (nS B0 11)) 0)), fS (nS (fB (nS B0 11)) 0), 0, [], .none, .none, .none, .none, none, .none, .none, 0⟩), (#[])⟩
noncomputable def ho86 (P : Params) : Obj := ⟨(.type "code"), none, (.fields (#[(.str (so "__init__") 234), (.str (so "Symbols.__init__") 235), (.str (so "/claim/cut.py") 236), (.int 18 0), (.int 1 0), (.int 0 0), (.int 0 0), (.int 3 0), (.ref 43), (.bool true), (.int 181 0), (.ref 44), .none, (.ref 45), (.ref 46), (.ref 47), (.int 240 0), (.int 18 0), (.str (so "/claim/cut.py") 241)])), (#[])⟩
noncomputable def ho87 (P : Params) : Obj := ⟨(.type "function"), none, (.func ⟨(so "__init__"), (so "Symbols.__init__"), fA (nS (fB (nS B0 11)) 0), .stmts (fB (nS (fB (nS B0 11)) 0)), fS (nS (fB (nS B0 11)) 0), 3, [], .none, .none, .none, (.str (so "clausemill.symbols") 194), none, (.ref 48), .none, 0⟩), (#[])⟩
noncomputable def ho90 (P : Params) : Obj := ⟨(.type "tuple"), none, (.seq (#[(.str (so "self") 246), (.str (so "text") 247), (.str (so "found") 248), (.str (so "number") 249)]) 0), (#[])⟩
noncomputable def ho92 (P : Params) : Obj := ⟨.none, none, (.func ⟨(so "atom"), (so "Symbols.atom"), fA (nS (fB (nS B0 11)) 1), .stmts (fB (nS (fB (nS B0 11)) 1)), fS (nS (fB (nS B0 11)) 1), 0, [], .none, .none, .none, .none, none, .none, .none, 0⟩), (#[])⟩
noncomputable def ho93 (P : Params) : Obj := ⟨(.type "code"), none, (.fields (#[(.str (so "atom") 243), (.str (so "Symbols.atom") 244), (.str (so "/claim/cut.py") 245), (.int 28 0), (.int 2 0), (.int 0 0), (.int 0 0), (.int 3 0), (.ref 50), (.bool true), (.int 181 0), (.ref 51), .none, (.ref 52), (.ref 53), (.ref 54), (.int 250 0), (.int 28 0), (.str (so "/claim/cut.py") 251)])), (#[])⟩
noncomputable def ho94 (P : Params) : Obj := ⟨(.type "function"), none, (.func ⟨(so "atom"), (so "Symbols.atom"), fA (nS (fB (nS B0 11)) 1), .stmts (fB (nS (fB (nS B0 11)) 1)), fS (nS (fB (nS B0 11)) 1), 3, [], .none, .none, .none, (.str (so "clausemill.symbols") 194), none, (.ref 55), .none, 0⟩), (#[])⟩
noncomputable def ho97 (P : Params) : Obj := ⟨(.type "tuple"), none, (.seq (#[(.str (so "self") 256), (.str (so "number") 257)]) 0), (#[])⟩
noncomputable def ho99 (P : Params) : Obj := ⟨.none, none, (.func ⟨(so "text"), (so "Symbols.text"), fA (nS (fB (nS B0 11)) 2), .stmts (fB (nS (fB (nS B0 11)) 2)), fS (nS (fB (nS B0 11)) 2), 0, [], .none, .none, .none, .none, none, .none, .none, 0⟩), (#[])⟩
noncomputable def ho100 (P : Params) : Obj := ⟨(.type "code"), none, (.fields (#[(.str (so "text") 253), (.str (so "Symbols.text") 254), (.str (so "/claim/cut.py") 255), (.int 37 0), (.int 2 0), (.int 0 0), (.int 0 0), (.int 3 0), (.ref 57), (.bool true), (.int 181 0), (.ref 58), .none, (.ref 59), (.ref 60), (.ref 61), (.int 258 0), (.int 37 0), (.str (so "/claim/cut.py") 259)])), (#[])⟩
noncomputable def ho101 (P : Params) : Obj := ⟨(.type "function"), none, (.func ⟨(so "text"), (so "Symbols.text"), fA (nS (fB (nS B0 11)) 2), .stmts (fB (nS (fB (nS B0 11)) 2)), fS (nS (fB (nS B0 11)) 2), 3, [], .none, .none, .none, (.str (so "clausemill.symbols") 194), none, (.ref 62), .none, 0⟩), (#[])⟩
noncomputable def ho104 (P : Params) : Obj := ⟨(.type "tuple"), none, (.seq (#[(.str (so "self") 264), (.str (so "atom") 265), (.str (so "arity") 266), (.str (so "key") 267), (.str (so "found") 268), (.str (so "number") 269)]) 0), (#[])⟩
noncomputable def ho106 (P : Params) : Obj := ⟨.none, none, (.func ⟨(so "functor"), (so "Symbols.functor"), fA (nS (fB (nS B0 11)) 3), .stmts (fB (nS (fB (nS B0 11)) 3)), fS (nS (fB (nS B0 11)) 3), 0, [], .none, .none, .none, .none, none, .none, .none, 0⟩), (#[])⟩
noncomputable def ho107 (P : Params) : Obj := ⟨(.type "code"), none, (.fields (#[(.str (so "functor") 261), (.str (so "Symbols.functor") 262), (.str (so "/claim/cut.py") 263), (.int 40 0), (.int 3 0), (.int 0 0), (.int 0 0), (.int 3 0), (.ref 64), (.bool true), (.int 181 0), (.ref 65), .none, (.ref 66), (.ref 67), (.ref 68), (.int 270 0), (.int 40 0), (.str (so "/claim/cut.py") 271)])), (#[])⟩
noncomputable def ho108 (P : Params) : Obj := ⟨(.type "function"), none, (.func ⟨(so "functor"), (so "Symbols.functor"), fA (nS (fB (nS B0 11)) 3), .stmts (fB (nS (fB (nS B0 11)) 3)), fS (nS (fB (nS B0 11)) 3), 3, [], .none, .none, .none, (.str (so "clausemill.symbols") 194), none, (.ref 69), .none, 0⟩), (#[])⟩
noncomputable def ho111 (P : Params) : Obj := ⟨(.type "tuple"), none, (.seq (#[(.str (so "self") 276), (.str (so "text") 277), (.str (so "arity") 278)]) 0), (#[])⟩
noncomputable def ho113 (P : Params) : Obj := ⟨.none, none, (.func ⟨(so "func"), (so "Symbols.func"), fA (nS (fB (nS B0 11)) 4), .stmts (fB (nS (fB (nS B0 11)) 4)), fS (nS (fB (nS B0 11)) 4), 0, [], .none, .none, .none, .none, none, .none, .none, 0⟩), (#[])⟩
noncomputable def ho114 (P : Params) : Obj := ⟨(.type "code"), none, (.fields (#[(.str (so "func") 273), (.str (so "Symbols.func") 274), (.str (so "/claim/cut.py") 275), (.int 50 0), (.int 3 0), (.int 0 0), (.int 0 0), (.int 3 0), (.ref 71), (.bool true), (.int 181 0), (.ref 72), .none, (.ref 73), (.ref 74), (.ref 75), (.int 279 0), (.int 50 0), (.str (so "/claim/cut.py") 280)])), (#[])⟩
noncomputable def ho115 (P : Params) : Obj := ⟨(.type "function"), none, (.func ⟨(so "func"), (so "Symbols.func"), fA (nS (fB (nS B0 11)) 4), .stmts (fB (nS (fB (nS B0 11)) 4)), fS (nS (fB (nS B0 11)) 4), 3, [], .none, .none, .none, (.str (so "clausemill.symbols") 194), none, (.ref 76), .none, 0⟩), (#[])⟩
noncomputable def ho118 (P : Params) : Obj := ⟨(.type "tuple"), none, (.seq (#[(.str (so "self") 285), (.str (so "functor") 286)]) 0), (#[])⟩
noncomputable def ho120 (P : Params) : Obj := ⟨.none, none, (.func ⟨(so "name"), (so "Symbols.name"), fA (nS (fB (nS B0 11)) 5), .stmts (fB (nS (fB (nS B0 11)) 5)), fS (nS (fB (nS B0 11)) 5), 0, [], .none, .none, .none, .none, none, .none, .none, 0⟩), (#[])⟩
noncomputable def ho121 (P : Params) : Obj := ⟨(.type "code"), none, (.fields (#[(.str (so "name") 282), (.str (so "Symbols.name") 283), (.str (so "/claim/cut.py") 284), (.int 53 0), (.int 2 0), (.int 0 0), (.int 0 0), (.int 3 0), (.ref 78), (.bool true), (.int 181 0), (.ref 79), .none, (.ref 80), (.ref 81), (.ref 82), (.int 287 0), (.int 53 0), (.str (so "/claim/cut.py") 288)])), (#[])⟩
noncomputable def ho122 (P : Params) : Obj := ⟨(.type "function"), none, (.func ⟨(so "name"), (so "Symbols.name"), fA (nS (fB (nS B0 11)) 5), .stmts (fB (nS (fB (nS B0 11)) 5)), fS (nS (fB (nS B0 11)) 5), 3, [], .none, .none, .none, (.str (so "clausemill.symbols") 194), none, (.ref 83), .none, 0⟩), (#[])⟩
noncomputable def ho125 (P : Params) : Obj := ⟨(.type "tuple"), none, (.seq (#[(.str (so "self") 293), (.str (so "functor") 294)]) 0), (#[])⟩
noncomputable def ho127 (P : Params) : Obj := ⟨.none, none, (.func ⟨(so "arity"), (so "Symbols.arity"), fA (nS (fB (nS B0 11)) 6), .stmts (fB (nS (fB (nS B0 11)) 6)), fS (nS (fB (nS B0 11)) 6), 0, [], .none, .none, .none, .none, none, .none, .none, 0⟩), (#[])⟩
noncomputable def ho128 (P : Params) : Obj := ⟨(.type "code"), none, (.fields (#[(.str (so "arity") 290), (.str (so "Symbols.arity") 291), (.str (so "/claim/cut.py") 292), (.int 56 0), (.int 2 0), (.int 0 0), (.int 0 0), (.int 3 0), (.ref 85), (.bool true), (.int 181 0), (.ref 86), .none, (.ref 87), (.ref 88), (.ref 89), (.int 295 0), (.int 56 0), (.str (so "/claim/cut.py") 296)])), (#[])⟩
noncomputable def ho129 (P : Params) : Obj := ⟨(.type "function"), none, (.func ⟨(so "arity"), (so "Symbols.arity"), fA (nS (fB (nS B0 11)) 6), .stmts (fB (nS (fB (nS B0 11)) 6)), fS (nS (fB (nS B0 11)) 6), 3, [], .none, .none, .none, (.str (so "clausemill.symbols") 194), none, (.ref 90), .none, 0⟩), (#[])⟩
noncomputable def ho132 (P : Params) : Obj := ⟨(.type "tuple"), none, (.seq (#[(.str (so "self") 301), (.str (so "functor") 302)]) 0), (#[])⟩
noncomputable def ho134 (P : Params) : Obj := ⟨.none, none, (.func ⟨(so "label"), (so "Symbols.label"), fA (nS (fB (nS B0 11)) 7), .stmts (fB (nS (fB (nS B0 11)) 7)), fS (nS (fB (nS B0 11)) 7), 0, [], .none, .none, .none, .none, none, .none, .none, 0⟩), (#[])⟩
noncomputable def ho135 (P : Params) : Obj := ⟨(.type "code"), none, (.fields (#[(.str (so "label") 298), (.str (so "Symbols.label") 299), (.str (so "/claim/cut.py") 300), (.int 59 0), (.int 2 0), (.int 0 0), (.int 0 0), (.int 3 0), (.ref 92), (.bool true), (.int 181 0), (.ref 93), .none, (.ref 94), (.ref 95), (.ref 96), (.int 303 0), (.int 59 0), (.str (so "/claim/cut.py") 304)])), (#[])⟩
noncomputable def ho136 (P : Params) : Obj := ⟨(.type "function"), none, (.func ⟨(so "label"), (so "Symbols.label"), fA (nS (fB (nS B0 11)) 7), .stmts (fB (nS (fB (nS B0 11)) 7)), fS (nS (fB (nS B0 11)) 7), 3, [], .none, .none, .none, (.str (so "clausemill.symbols") 194), none, (.ref 97), .none, 0⟩), (#[])⟩
noncomputable def ho139 (P : Params) : Obj := ⟨(.type "tuple"), none, (.seq (#[(.str (so "self") 309)]) 0), (#[])⟩
noncomputable def ho141 (P : Params) : Obj := ⟨.none, none, (.func ⟨(so "count"), (so "Symbols.count"), fA (nS (fB (nS B0 11)) 8), .stmts (fB (nS (fB (nS B0 11)) 8)), fS (nS (fB (nS B0 11)) 8), 0, [], .none, .none, .none, .none, none, .none, .none, 0⟩), (#[])⟩
noncomputable def ho142 (P : Params) : Obj := ⟨(.type "code"), none, (.fields (#[(.str (so "count") 306), (.str (so "Symbols.count") 307), (.str (so "/claim/cut.py") 308), (.int 62 0), (.int 1 0), (.int 0 0), (.int 0 0), (.int 3 0), (.ref 99), (.bool true), (.int 181 0), (.ref 100), .none, (.ref 101), (.ref 102), (.ref 103), (.int 310 0), (.int 62 0), (.str (so "/claim/cut.py") 311)])), (#[])⟩
noncomputable def ho143 (P : Params) : Obj := ⟨(.type "function"), none, (.func ⟨(so "count"), (so "Symbols.count"), fA (nS (fB (nS B0 11)) 8), .stmts (fB (nS (fB (nS B0 11)) 8)), fS (nS (fB (nS B0 11)) 8), 3, [], .none, .none, .none, (.str (so "clausemill.symbols") 194), none, (.ref 104), .none, 0⟩), (#[])⟩
noncomputable def ho146 (P : Params) : Obj := ⟨(.type "tuple"), none, (.seq (#[(.str (so "self") 316)]) 0), (#[])⟩
noncomputable def ho148 (P : Params) : Obj := ⟨.none, none, (.func ⟨(so "functor_count"), (so "Symbols.functor_count"), fA (nS (fB (nS B0 11)) 9), .stmts (fB (nS (fB (nS B0 11)) 9)), fS (nS (fB (nS B0 11)) 9), 0, [], .none, .none, .none, .none, none, .none, .none, 0⟩), (#[])⟩
noncomputable def ho149 (P : Params) : Obj := ⟨(.type "code"), none, (.fields (#[(.str (so "functor_count") 313), (.str (so "Symbols.functor_count") 314), (.str (so "/claim/cut.py") 315), (.int 65 0), (.int 1 0), (.int 0 0), (.int 0 0), (.int 3 0), (.ref 106), (.bool true), (.int 181 0), (.ref 107), .none, (.ref 108), (.ref 109), (.ref 110), (.int 317 0), (.int 65 0), (.str (so "/claim/cut.py") 318)])), (#[])⟩
noncomputable def ho150 (P : Params) : Obj := ⟨(.type "function"), none, (.func ⟨(so "functor_count"), (so "Symbols.functor_count"), fA (nS (fB (nS B0 11)) 9), .stmts (fB (nS (fB (nS B0 11)) 9)), fS (nS (fB (nS B0 11)) 9), 3, [], .none, .none, .none, (.str (so "clausemill.symbols") 194), none, (.ref 111), .none, 0⟩), (#[])⟩
noncomputable def ho153 (P : Params) : Obj := ⟨(.type "tuple"), none, (.seq (#[(.str (so "self") 323), (.str (so "text") 324), (.str (so "arity") 325)]) 0), (#[])⟩
noncomputable def ho155 (P : Params) : Obj := ⟨.none, none, (.func ⟨(so "known"), (so "Symbols.known"), fA (nS (fB (nS B0 11)) 10), .stmts (fB (nS (fB (nS B0 11)) 10)), fS (nS (fB (nS B0 11)) 10), 0, [], .none, .none, .none, .none, none, .none, .none, 0⟩), (#[])⟩
noncomputable def ho156 (P : Params) : Obj := ⟨(.type "code"), none, (.fields (#[(.str (so "known") 320), (.str (so "Symbols.known") 321), (.str (so "/claim/cut.py") 322), (.int 68 0), (.int 3 0), (.int 0 0), (.int 0 0), (.int 3 0), (.ref 113), (.bool true), (.int 181 0), (.ref 114), .none, (.ref 115), (.ref 116), (.ref 117), (.int 326 0), (.int 68 0), (.str (so "/claim/cut.py") 327)])), (#[])⟩
noncomputable def ho157 (P : Params) : Obj := ⟨(.type "function"), none, (.func ⟨(so "known"), (so "Symbols.known"), fA (nS (fB (nS B0 11)) 10), .stmts (fB (nS (fB (nS B0 11)) 10)), fS (nS (fB (nS B0 11)) 10), 3, [], .none, .none, .none, (.str (so "clausemill.symbols") 194), none, (.ref 118), .none, 0⟩), (#[])⟩
noncomputable def ho158 (P : Params) : Obj := ⟨(.type "tuple"), none, (.seq (#[(.str (so "atom_numbers") 329), (.str (so "functor_numbers") 330), (.str (so "functors") 331), (.str (so "texts") 332)]) 0), (#[])⟩
noncomputable def ho159 (P : Params) : Obj := ⟨(.type "dict"), none, (.dict (#[⟨(PyData.keyHash P (so "__module__")), (.str (so "__module__") 229), (.str (so "clausemill.symbols") 194)⟩, ⟨(PyData.keyHash P (so "__firstlineno__")), (.str (so "__firstlineno__") 233), (.int (16 : Int) 232)⟩, ⟨(PyData.keyHash P (so "__init__")), (.str (so "__init__") 242), (.ref 49)⟩, ⟨(PyData.keyHash P (so "atom")), (.str (so "atom") 252), (.ref 56)⟩, ⟨(PyData.keyHash P (so "text")), (.str (so "text") 260), (.ref 63)⟩, ⟨(PyData.keyHash P (so "functor")), (.str (so "functor") 272), (.ref 70)⟩, ⟨(PyData.keyHash P (so "func")), (.str (so "func") 281), (.ref 77)⟩, ⟨(PyData.keyHash P (so "name")), (.str (so "name") 289), (.ref 84)⟩, ⟨(PyData.keyHash P (so "arity")), (.str (so "arity") 297), (.ref 91)⟩, ⟨(PyData.keyHash P (so "label")), (.str (so "label") 305), (.ref 98)⟩, ⟨(PyData.keyHash P (so "count")), (.str (so "count") 312), (.ref 105)⟩, ⟨(PyData.keyHash P (so "functor_count")), (.str (so "functor_count") 319), (.ref 112)⟩, ⟨(PyData.keyHash P (so "known")), (.str (so "known") 328), (.ref 119)⟩, ⟨(PyData.keyHash P (so "__static_attributes__")), (.str (so "__static_attributes__") 333), (.ref 120)⟩, ⟨(PyData.keyHash P (so "__dict__")), (.str (so "__dict__") 335), (.ref 123)⟩, ⟨(PyData.keyHash P (so "__weakref__")), (.str (so "__weakref__") 337), (.ref 124)⟩, ⟨(PyData.keyHash P (so "__doc__")), (.str (so "__doc__") 338), .none⟩]) 4), (#[])⟩
noncomputable def ho160 (P : Params) : Obj := ⟨(.type "type"), none, (.cls ⟨(so "Symbols"), [(.type "object")], [(.ref 122), (.type "object")], 121, (so "Symbols"), true, [], [], false, none, false⟩), (#[none, none, (some (.str (so "Symbols") 222)), (some (.str (so "Symbols") 230)), (some (.builtin "object.__new__")), (some (.bool true))])⟩
noncomputable def ho161 (P : Params) : Obj := ⟨(.type "getset_descriptor"), none, (.fields (#[(.str (so "__dict__") 334), (.ref 122), (.builtin "function.__dict__"), (.builtin "function.__dict__#set")])), (#[])⟩
noncomputable def ho162 (P : Params) : Obj := ⟨(.type "getset_descriptor"), none, (.fields (#[(.str (so "__weakref__") 336), (.ref 122), (.builtin "ExceptionGroup.__weakref__"), .none])), (#[])⟩
noncomputable def ho163 (P : Params) : Obj := ⟨(.type "super"), none, (.fields (#[(.ref 122), (.ref 122), (.ref 122)])), (#[])⟩
noncomputable def ho164 (P : Params) : Obj := ⟨(.type "builtin_function_or_method"), none, (.fields (#[(.builtin "object.__init_subclass__"), (.ref 122)])), (#[])⟩
noncomputable def ho165 (P : Params) : Obj := ⟨(.type "dict"), none, (.dict (#[⟨(PyData.keyHash P (so "__name__")), (.str (so "__name__") 165), (.str (so "clausemill.operators") 421)⟩, ⟨(PyData.keyHash P (so "__doc__")), (.str (so "__doc__") 166), .none⟩, ⟨(PyData.keyHash P (so "__package__")), (.str (so "__package__") 167), .none⟩, ⟨(PyData.keyHash P (so "__loader__")), (.str (so "__loader__") 168), (.builtin "__main__.__loader__#opaque")⟩, ⟨(PyData.keyHash P (so "__spec__")), (.str (so "__spec__") 169), .none⟩, ⟨(PyData.keyHash P (so "__annotations__")), (.str (so "__annotations__") 170), (.ref 6)⟩, ⟨(PyData.keyHash P (so "__builtins__")), (.str (so "__builtins__") 171), (.ref 4)⟩, ⟨(PyData.keyHash P (so "__file__")), (.str (so "__file__") 173), (.str (so "/claim/cut.py") 172)⟩, ⟨(PyData.keyHash P (so "__cached__")), (.str (so "__cached__") 174), .none⟩, ⟨(PyData.keyHash P (so "_wall")), (.str (so "_wall") 193), (.ref 21)⟩, ⟨(PyData.keyHash P (so "A_NIL")), (.str (so "A_NIL") 197), (.int (0 : Int) 196)⟩, ⟨(PyData.keyHash P (so "A_MINUS")), (.str (so "A_MINUS") 199), (.int (3 : Int) 198)⟩, ⟨(PyData.keyHash P (so "A_COMMA")), (.str (so "A_COMMA") 201), (.int (7 : Int) 200)⟩, ⟨(PyData.keyHash P (so "A_BAR")), (.str (so "A_BAR") 203), (.int (8 : Int) 202)⟩, ⟨(PyData.keyHash P (so "F_DOT")), (.str (so "F_DOT") 205), (.int (0 : Int) 204)⟩, ⟨(PyData.keyHash P (so "F_CURLY")), (.str (so "F_CURLY") 207), (.int (9 : Int) 206)⟩, ⟨(PyData.keyHash P (so "F_VARNAME")), (.str (so "F_VARNAME") 209), (.int (17 : Int) 208)⟩, ⟨(PyData.keyHash P (so "fixed_atoms")), (.str (so "fixed_atoms") 215), (.ref 28)⟩, ⟨(PyData.keyHash P (so "fixed_functors")), (.str (so "fixed_functors") 221), (.ref 35)⟩, ⟨(PyData.keyHash P (so "Symbols")), (.str (so "Symbols") 340), (.ref 122)⟩, ⟨(PyData.keyHash P (so "list_items")), (.str (so "list_items") 350), (.ref 133)⟩, ⟨(PyData.keyHash P (so "is_digit")), (.str (so "is_digit") 359), (.ref 140)⟩, ⟨(PyData.keyHash P (so "is_small")), (.str (so "is_small") 366), (.ref 147)⟩, ⟨(PyData.keyHash P (so "is_capital")), (.str (so "is_capital") 373), (.ref 154)⟩, ⟨(PyData.keyHash P (so "is_alnum")), (.str (so "is_alnum") 380), (.ref 161)⟩, ⟨(PyData.keyHash P (so "is_symbol")), (.str (so "is_symbol") 387), (.ref 168)⟩, ⟨(PyData.keyHash P (so "number_text")), (.str (so "number_text") 397), (.ref 175)⟩, ⟨(PyData.keyHash P (so "is_alnum_name")), (.str (so "is_alnum_name") 405), (.ref 182)⟩, ⟨(PyData.keyHash P (so "is_symbol_name")), (.str (so "is_symbol_name") 413), (.ref 189)⟩, ⟨(PyData.keyHash P (so "is_plain_name")), (.str (so "is_plain_name") 420), (.ref 196)⟩, ⟨(PyData.keyHash P (so "COMMA_PRIORITY")), (.str (so "COMMA_PRIORITY") 424), (.int (1000 : Int) 423)⟩, ⟨(PyData.keyHash P (so "PREFIX_TYPES")), (.str (so "PREFIX_TYPES") 427), (.ref 197)⟩, ⟨(PyData.keyHash P (so "INFIX_TYPES")), (.str (so "INFIX_TYPES") 431), (.ref 198)⟩, ⟨(PyData.keyHash P (so "POSTFIX_TYPES")), (.str (so "POSTFIX_TYPES") 434), (.ref 199)⟩, ⟨(PyData.keyHash P (so "standard_rows")), (.str (so "standard_rows") 440), (.ref 206)⟩]) 35), (#[])⟩
noncomputable def ho166 (P : Params) : Obj := ⟨.none, none, (.fields (#[(.int 1 0), (.int 0 0), (.ref 20), (.int 12 0), (.int 0 0), (.ref 27), (.int 14 0), (.int 0 0), (.ref 34), (.int 16 0), (.int 0 0), (.ref 41), (.int 71 0), (.int 0 0), (.ref 132), (.int 78 0), (.int 0 0), (.ref 139), (.int 80 0), (.int 0 0), (.ref 146), (.int 82 0), (.int 0 0), (.ref 153), (.int 84 0), (.int 0 0), (.ref 160), (.int 86 0), (.int 0 0), (.ref 167), (.int 88 0), (.int 0 0), (.ref 174), (.int 98 0), (.int 0 0), (.ref 181), (.int 105 0), (.int 0 0), (.ref 188), (.int 112 0), (.int 0 0), (.ref 195), (.int 123 0), (.int 0 0), (.ref 205)])), (#[])⟩
noncomputable def ho169 (P : Params) : Obj := ⟨(.type "tuple"), none, (.seq (#[(.str (so "term") 346), (.str (so "items") 347)]) 0), (#[])⟩
noncomputable def ho171 (P : Params) : Obj := ⟨.none, none, (.func ⟨(so "list_items"), (so "list_items"), fA (nS B0 13), .stmts (fB (nS B0 13)), fS (nS B0 13), 0, [], .none, .none, .none, .none, none, .none, .none, 0⟩), (#[])⟩
noncomputable def ho172 (P : Params) : Obj := ⟨(.type "code"), none, (.fields (#[(.str (so "list_items") 343), (.str (so "list_items") 344), (.str (so "/claim/cut.py") 345), (.int 71 0), (.int 1 0), (.int 0 0), (.int 0 0), (.int 3 0), (.ref 127), (.bool true), (.int 181 0), (.ref 128), .none, (.ref 129), (.ref 130), (.ref 131), (.int 348 0), (.int 71 0), (.str (so "/claim/cut.py") 349)])), (#[])⟩
noncomputable def ho173 (P : Params) : Obj := ⟨(.type "function"), none, (.func ⟨(so "list_items"), (so "list_items"), fA (nS B0 13), .stmts (fB (nS B0 13)), fS (nS B0 13), 3, [], .none, .none, .none, (.str (so "clausemill.terms") 341), none, (.ref 132), .none, 0⟩), (#[])⟩
noncomputable def ho176 (P : Params) : Obj := ⟨(.type "tuple"), none, (.seq (#[(.str (so "code") 356)]) 0), (#[])⟩
noncomputable def ho178 (P : Params) : Obj := ⟨.none, none, (.func ⟨(so "is_digit"), (so "is_digit"), fA (nS B0 15), .stmts (fB (nS B0 15)), fS (nS B0 15), 0, [], .none, .none, .none, .none, none, .none, .none, 0⟩), (#[])⟩
noncomputable def ho179 (P : Params) : Obj := ⟨(.type "code"), none, (.fields (#[(.str (so "is_digit") 353), (.str (so "is_digit") 354), (.str (so "/claim/cut.py") 355), (.int 78 0), (.int 1 0), (.int 0 0), (.int 0 0), (.int 3 0), (.ref 134), (.bool true), (.int 181 0), (.ref 135), .none, (.ref 136), (.ref 137), (.ref 138), (.int 357 0), (.int 78 0), (.str (so "/claim/cut.py") 358)])), (#[])⟩
noncomputable def ho180 (P : Params) : Obj := ⟨(.type "function"), none, (.func ⟨(so "is_digit"), (so "is_digit"), fA (nS B0 15), .stmts (fB (nS B0 15)), fS (nS B0 15), 3, [], .none, .none, .none, (.str (so "clausemill.chars") 351), none, (.ref 139), .none, 0⟩), (#[])⟩
noncomputable def ho183 (P : Params) : Obj := ⟨(.type "tuple"), none, (.seq (#[(.str (so "code") 363)]) 0), (#[])⟩
noncomputable def ho185 (P : Params) : Obj := ⟨.none, none, (.func ⟨(so "is_small"), (so "is_small"), fA (nS B0 16), .stmts (fB (nS B0 16)), fS (nS B0 16), 0, [], .none, .none, .none, .none, none, .none, .none, 0⟩), (#[])⟩
noncomputable def ho186 (P : Params) : Obj := ⟨(.type "code"), none, (.fields (#[(.str (so "is_small") 360), (.str (so "is_small") 361), (.str (so "/claim/cut.py") 362), (.int 80 0), (.int 1 0), (.int 0 0), (.int 0 0), (.int 3 0), (.ref 141), (.bool true), (.int 181 0), (.ref 142), .none, (.ref 143), (.ref 144), (.ref 145), (.int 364 0), (.int 80 0), (.str (so "/claim/cut.py") 365)])), (#[])⟩
noncomputable def ho187 (P : Params) : Obj := ⟨(.type "function"), none, (.func ⟨(so "is_small"), (so "is_small"), fA (nS B0 16), .stmts (fB (nS B0 16)), fS (nS B0 16), 3, [], .none, .none, .none, (.str (so "clausemill.chars") 351), none, (.ref 146), .none, 0⟩), (#[])⟩
noncomputable def ho190 (P : Params) : Obj := ⟨(.type "tuple"), none, (.seq (#[(.str (so "code") 370)]) 0), (#[])⟩
noncomputable def ho192 (P : Params) : Obj := ⟨.none, none, (.func ⟨(so "is_capital"), (so "is_capital"), fA (nS B0 17), .stmts (fB (nS B0 17)), fS (nS B0 17), 0, [], .none, .none, .none, .none, none, .none, .none, 0⟩), (#[])⟩
noncomputable def ho193 (P : Params) : Obj := ⟨(.type "code"), none, (.fields (#[(.str (so "is_capital") 367), (.str (so "is_capital") 368), (.str (so "/claim/cut.py") 369), (.int 82 0), (.int 1 0), (.int 0 0), (.int 0 0), (.int 3 0), (.ref 148), (.bool true), (.int 181 0), (.ref 149), .none, (.ref 150), (.ref 151), (.ref 152), (.int 371 0), (.int 82 0), (.str (so "/claim/cut.py") 372)])), (#[])⟩
noncomputable def ho194 (P : Params) : Obj := ⟨(.type "function"), none, (.func ⟨(so "is_capital"), (so "is_capital"), fA (nS B0 17), .stmts (fB (nS B0 17)), fS (nS B0 17), 3, [], .none, .none, .none, (.str (so "clausemill.chars") 351), none, (.ref 153), .none, 0⟩), (#[])⟩
noncomputable def ho197 (P : Params) : Obj := ⟨(.type "tuple"), none, (.seq (#[(.str (so "code") 377)]) 0), (#[])⟩
noncomputable def ho199 (P : Params) : Obj := ⟨.none, none, (.func ⟨(so "is_alnum"), (so "is_alnum"), fA (nS B0 18), .stmts (fB (nS B0 18)), fS (nS B0 18), 0, [], .none, .none, .none, .none, none, .none, .none, 0⟩), (#[])⟩
noncomputable def ho200 (P : Params) : Obj := ⟨(.type "code"), none, (.fields (#[(.str (so "is_alnum") 374), (.str (so "is_alnum") 375), (.str (so "/claim/cut.py") 376), (.int 84 0), (.int 1 0), (.int 0 0), (.int 0 0), (.int 3 0), (.ref 155), (.bool true), (.int 181 0), (.ref 156), .none, (.ref 157), (.ref 158), (.ref 159), (.int 378 0), (.int 84 0), (.str (so "/claim/cut.py") 379)])), (#[])⟩
noncomputable def ho201 (P : Params) : Obj := ⟨(.type "function"), none, (.func ⟨(so "is_alnum"), (so "is_alnum"), fA (nS B0 18), .stmts (fB (nS B0 18)), fS (nS B0 18), 3, [], .none, .none, .none, (.str (so "clausemill.chars") 351), none, (.ref 160), .none, 0⟩), (#[])⟩
noncomputable def ho204 (P : Params) : Obj := ⟨(.type "tuple"), none, (.seq (#[(.str (so "code") 384)]) 0), (#[])⟩
noncomputable def ho206 (P : Params) : Obj := ⟨.none, none, (.func ⟨(so "is_symbol"), (so "is_symbol"), fA (nS B0 19), .stmts (fB (nS B0 19)), fS (nS B0 19), 0, [], .none, .none, .none, .none, none, .none, .none, 0⟩), (#[])⟩
noncomputable def ho207 (P : Params) : Obj := ⟨(.type "code"), none, (.fields (#[(.str (so "is_symbol") 381), (.str (so "is_symbol") 382), (.str (so "/claim/cut.py") 383), (.int 86 0), (.int 1 0), (.int 0 0), (.int 0 0), (.int 3 0), (.ref 162), (.bool true), (.int 181 0), (.ref 163), .none, (.ref 164), (.ref 165), (.ref 166), (.int 385 0), (.int 86 0), (.str (so "/claim/cut.py") 386)])), (#[])⟩
noncomputable def ho208 (P : Params) : Obj := ⟨(.type "function"), none, (.func ⟨(so "is_symbol"), (so "is_symbol"), fA (nS B0 19), .stmts (fB (nS B0 19)), fS (nS B0 19), 3, [], .none, .none, .none, (.str (so "clausemill.chars") 351), none, (.ref 167), .none, 0⟩), (#[])⟩
noncomputable def ho211 (P : Params) : Obj := ⟨(.type "tuple"), none, (.seq (#[(.str (so "value") 391), (.str (so "rest") 392), (.str (so "pieces") 393), (.str (so "piece") 394)]) 0), (#[])⟩
noncomputable def ho213 (P : Params) : Obj := ⟨.none, none, (.func ⟨(so "number_text"), (so "number_text"), fA (nS B0 20), .stmts (fB (nS B0 20)), fS (nS B0 20), 0, [], .none, .none, .none, .none, none, .none, .none, 0⟩), (#[])⟩
noncomputable def ho214 (P : Params) : Obj := ⟨(.type "code"), none, (.fields (#[(.str (so "number_text") 388), (.str (so "number_text") 389), (.str (so "/claim/cut.py") 390), (.int 88 0), (.int 1 0), (.int 0 0), (.int 0 0), (.int 3 0), (.ref 169), (.bool true), (.int 181 0), (.ref 170), .none, (.ref 171), (.ref 172), (.ref 173), (.int 395 0), (.int 88 0), (.str (so "/claim/cut.py") 396)])), (#[])⟩
noncomputable def ho215 (P : Params) : Obj := ⟨(.type "function"), none, (.func ⟨(so "number_text"), (so "number_text"), fA (nS B0 20), .stmts (fB (nS B0 20)), fS (nS B0 20), 3, [], .none, .none, .none, (.str (so "clausemill.chars") 351), none, (.ref 174), .none, 0⟩), (#[])⟩
noncomputable def ho218 (P : Params) : Obj := ⟨(.type "tuple"), none, (.seq (#[(.str (so "text") 401), (.str (so "char") 402)]) 0), (#[])⟩
noncomputable def ho220 (P : Params) : Obj := ⟨.none, none, (.func ⟨(so "is_alnum_name"), (so "is_alnum_name"), fA (nS B0 21), .stmts (fB (nS B0 21)), fS (nS B0 21), 0, [], .none, .none, .none, .none, none, .none, .none, 0⟩), (#[])⟩
noncomputable def ho221 (P : Params) : Obj := ⟨(.type "code"), none, (.fields (#[(.str (so "is_alnum_name") 398), (.str (so "is_alnum_name") 399), (.str (so "/claim/cut.py") 400), (.int 98 0), (.int 1 0), (.int 0 0), (.int 0 0), (.int 3 0), (.ref 176), (.bool true), (.int 181 0), (.ref 177), .none, (.ref 178), (.ref 179), (.ref 180), (.int 403 0), (.int 98 0), (.str (so "/claim/cut.py") 404)])), (#[])⟩
noncomputable def ho222 (P : Params) : Obj := ⟨(.type "function"), none, (.func ⟨(so "is_alnum_name"), (so "is_alnum_name"), fA (nS B0 21), .stmts (fB (nS B0 21)), fS (nS B0 21), 3, [], .none, .none, .none, (.str (so "clausemill.chars") 351), none, (.ref 181), .none, 0⟩), (#[])⟩
noncomputable def ho225 (P : Params) : Obj := ⟨(.type "tuple"), none, (.seq (#[(.str (so "text") 409), (.str (so "char") 410)]) 0), (#[])⟩
noncomputable def ho227 (P : Params) : Obj := ⟨.none, none, (.func ⟨(so "is_symbol_name"), (so "is_symbol_name"), fA (nS B0 22), .stmts (fB (nS B0 22)), fS (nS B0 22), 0, [], .none, .none, .none, .none, none, .none, .none, 0⟩), (#[])⟩
noncomputable def ho228 (P : Params) : Obj := ⟨(.type "code"), none, (.fields (#[(.str (so "is_symbol_name") 406), (.str (so "is_symbol_name") 407), (.str (so "/claim/cut.py") 408), (.int 105 0), (.int 1 0), (.int 0 0), (.int 0 0), (.int 3 0), (.ref 183), (.bool true), (.int 181 0), (.ref 184), .none, (.ref 185), (.ref 186), (.ref 187), (.int 411 0), (.int 105 0), (.str (so "/claim/cut.py") 412)])), (#[])⟩
noncomputable def ho229 (P : Params) : Obj := ⟨(.type "function"), none, (.func ⟨(so "is_symbol_name"), (so "is_symbol_name"), fA (nS B0 22), .stmts (fB (nS B0 22)), fS (nS B0 22), 3, [], .none, .none, .none, (.str (so "clausemill.chars") 351), none, (.ref 188), .none, 0⟩), (#[])⟩
noncomputable def ho232 (P : Params) : Obj := ⟨(.type "tuple"), none, (.seq (#[(.str (so "text") 417)]) 0), (#[])⟩
noncomputable def ho234 (P : Params) : Obj := ⟨.none, none, (.func ⟨(so "is_plain_name"), (so "is_plain_name"), fA (nS B0 23), .stmts (fB (nS B0 23)), fS (nS B0 23), 0, [], .none, .none, .none, .none, none, .none, .none, 0⟩), (#[])⟩
noncomputable def ho235 (P : Params) : Obj := ⟨(.type "code"), none, (.fields (#[(.str (so "is_plain_name") 414), (.str (so "is_plain_name") 415), (.str (so "/claim/cut.py") 416), (.int 112 0), (.int 1 0), (.int 0 0), (.int 0 0), (.int 3 0), (.ref 190), (.bool true), (.int 181 0), (.ref 191), .none, (.ref 192), (.ref 193), (.ref 194), (.int 418 0), (.int 112 0), (.str (so "/claim/cut.py") 419)])), (#[])⟩
noncomputable def ho236 (P : Params) : Obj := ⟨(.type "function"), none, (.func ⟨(so "is_plain_name"), (so "is_plain_name"), fA (nS B0 23), .stmts (fB (nS B0 23)), fS (nS B0 23), 3, [], .none, .none, .none, (.str (so "clausemill.chars") 351), none, (.ref 195), .none, 0⟩), (#[])⟩
noncomputable def ho237 (P : Params) : Obj := ⟨(.type "tuple"), none, (.seq (#[(.str (so "fx") 425), (.str (so "fy") 426)]) 0), (#[])⟩
noncomputable def ho238 (P : Params) : Obj := ⟨(.type "tuple"), none, (.seq (#[(.str (so "xfx") 428), (.str (so "xfy") 429), (.str (so "yfx") 430)]) 0), (#[])⟩
noncomputable def ho239 (P : Params) : Obj := ⟨(.type "tuple"), none, (.seq (#[(.str (so "xf") 432), (.str (so "yf") 433)]) 0), (#[])⟩
noncomputable def ho244 (P : Params) : Obj := ⟨.none, none, (.func ⟨(so "standard_rows"), (so "standard_rows"), fA (nS B0 29), .stmts (fB (nS B0 29)), fS (nS B0 29), 0, [], .none, .none, .none, .none, none, .none, .none, 0⟩), (#[])⟩
noncomputable def ho245 (P : Params) : Obj := ⟨(.type "code"), none, (.fields (#[(.str (so "standard_rows") 435), (.str (so "standard_rows") 436), (.str (so "/claim/cut.py") 437), (.int 123 0), (.int 0 0), (.int 0 0), (.int 0 0), (.int 3 0), (.ref 200), (.bool true), (.int 181 0), (.ref 201), .none, (.ref 202), (.ref 203), (.ref 204), (.int 438 0), (.int 123 0), (.str (so "/claim/cut.py") 439)])), (#[])⟩
noncomputable def ho246 (P : Params) : Obj := ⟨(.type "function"), none, (.func ⟨(so "standard_rows"), (so "standard_rows"), fA (nS B0 29), .stmts (fB (nS B0 29)), fS (nS B0 29), 3, [], .none, .none, .none, (.str (so "clausemill.operators") 421), none, (.ref 205), .none, 0⟩), (#[])⟩
noncomputable def ho247 (P : Params) : Obj := ⟨(.type "dict"), none, (.dict (#[⟨(PyData.keyHash P (so "__name__")), (.str (so "__name__") 165), (.str (so "clausemill.operators") 421)⟩, ⟨(PyData.keyHash P (so "__doc__")), (.str (so "__doc__") 166), .none⟩, ⟨(PyData.keyHash P (so "__package__")), (.str (so "__package__") 167), .none⟩, ⟨(PyData.keyHash P (so "__loader__")), (.str (so "__loader__") 168), (.builtin "__main__.__loader__#opaque")⟩, ⟨(PyData.keyHash P (so "__spec__")), (.str (so "__spec__") 169), .none⟩, ⟨(PyData.keyHash P (so "__annotations__")), (.str (so "__annotations__") 170), (.ref 6)⟩, ⟨(PyData.keyHash P (so "__builtins__")), (.str (so "__builtins__") 171), (.ref 4)⟩, ⟨(PyData.keyHash P (so "__file__")), (.str (so "__file__") 173), (.str (so "/claim/cut.py") 172)⟩, ⟨(PyData.keyHash P (so "__cached__")), (.str (so "__cached__") 174), .none⟩, ⟨(PyData.keyHash P (so "_wall")), (.str (so "_wall") 193), (.ref 21)⟩, ⟨(PyData.keyHash P (so "A_NIL")), (.str (so "A_NIL") 197), (.int (0 : Int) 196)⟩, ⟨(PyData.keyHash P (so "A_MINUS")), (.str (so "A_MINUS") 199), (.int (3 : Int) 198)⟩, ⟨(PyData.keyHash P (so "A_COMMA")), (.str (so "A_COMMA") 201), (.int (7 : Int) 200)⟩, ⟨(PyData.keyHash P (so "A_BAR")), (.str (so "A_BAR") 203), (.int (8 : Int) 202)⟩, ⟨(PyData.keyHash P (so "F_DOT")), (.str (so "F_DOT") 205), (.int (0 : Int) 204)⟩, ⟨(PyData.keyHash P (so "F_CURLY")), (.str (so "F_CURLY") 207), (.int (9 : Int) 206)⟩, ⟨(PyData.keyHash P (so "F_VARNAME")), (.str (so "F_VARNAME") 209), (.int (17 : Int) 208)⟩, ⟨(PyData.keyHash P (so "fixed_atoms")), (.str (so "fixed_atoms") 215), (.ref 28)⟩, ⟨(PyData.keyHash P (so "fixed_functors")), (.str (so "fixed_functors") 221), (.ref 35)⟩, ⟨(PyData.keyHash P (so "Symbols")), (.str (so "Symbols") 340), (.ref 122)⟩, ⟨(PyData.keyHash P (so "list_items")), (.str (so "list_items") 350), (.ref 133)⟩, ⟨(PyData.keyHash P (so "is_digit")), (.str (so "is_digit") 359), (.ref 140)⟩, ⟨(PyData.keyHash P (so "is_small")), (.str (so "is_small") 366), (.ref 147)⟩, ⟨(PyData.keyHash P (so "is_capital")), (.str (so "is_capital") 373), (.ref 154)⟩, ⟨(PyData.keyHash P (so "is_alnum")), (.str (so "is_alnum") 380), (.ref 161)⟩, ⟨(PyData.keyHash P (so "is_symbol")), (.str (so "is_symbol") 387), (.ref 168)⟩, ⟨(PyData.keyHash P (so "number_text")), (.str (so "number_text") 397), (.ref 175)⟩, ⟨(PyData.keyHash P (so "is_alnum_name")), (.str (so "is_alnum_name") 405), (.ref 182)⟩, ⟨(PyData.keyHash P (so "is_symbol_name")), (.str (so "is_symbol_name") 413), (.ref 189)⟩, ⟨(PyData.keyHash P (so "is_plain_name")), (.str (so "is_plain_name") 420), (.ref 196)⟩, ⟨(PyData.keyHash P (so "COMMA_PRIORITY")), (.str (so "COMMA_PRIORITY") 424), (.int (1000 : Int) 423)⟩, ⟨(PyData.keyHash P (so "PREFIX_TYPES")), (.str (so "PREFIX_TYPES") 427), (.ref 197)⟩, ⟨(PyData.keyHash P (so "INFIX_TYPES")), (.str (so "INFIX_TYPES") 431), (.ref 198)⟩, ⟨(PyData.keyHash P (so "POSTFIX_TYPES")), (.str (so "POSTFIX_TYPES") 434), (.ref 199)⟩, ⟨(PyData.keyHash P (so "standard_rows")), (.str (so "standard_rows") 440), (.ref 206)⟩, ⟨(PyData.keyHash P (so "fixity")), (.str (so "fixity") 447), (.ref 213)⟩, ⟨(PyData.keyHash P (so "bounds")), (.str (so "bounds") 456), (.ref 220)⟩]) 37), (#[])⟩
noncomputable def ho248 (P : Params) : Obj := ⟨.none, none, (.fields (#[(.int 1 0), (.int 0 0), (.ref 20), (.int 12 0), (.int 0 0), (.ref 27), (.int 14 0), (.int 0 0), (.ref 34), (.int 16 0), (.int 0 0), (.ref 41), (.int 71 0), (.int 0 0), (.ref 132), (.int 78 0), (.int 0 0), (.ref 139), (.int 80 0), (.int 0 0), (.ref 146), (.int 82 0), (.int 0 0), (.ref 153), (.int 84 0), (.int 0 0), (.ref 160), (.int 86 0), (.int 0 0), (.ref 167), (.int 88 0), (.int 0 0), (.ref 174), (.int 98 0), (.int 0 0), (.ref 181), (.int 105 0), (.int 0 0), (.ref 188), (.int 112 0), (.int 0 0), (.ref 195), (.int 123 0), (.int 0 0), (.ref 205), (.int 125 0), (.int 0 0), (.ref 212), (.int 133 0), (.int 0 0), (.ref 219)])), (#[])⟩
noncomputable def ho251 (P : Params) : Obj := ⟨(.type "tuple"), none, (.seq (#[(.str (so "type_text") 444)]) 0), (#[])⟩
noncomputable def ho253 (P : Params) : Obj := ⟨.none, none, (.func ⟨(so "fixity"), (so "fixity"), fA (nS B0 30), .stmts (fB (nS B0 30)), fS (nS B0 30), 0, [], .none, .none, .none, .none, none, .none, .none, 0⟩), (#[])⟩
noncomputable def ho254 (P : Params) : Obj := ⟨(.type "code"), none, (.fields (#[(.str (so "fixity") 441), (.str (so "fixity") 442), (.str (so "/claim/cut.py") 443), (.int 125 0), (.int 1 0), (.int 0 0), (.int 0 0), (.int 3 0), (.ref 207), (.bool true), (.int 181 0), (.ref 208), .none, (.ref 209), (.ref 210), (.ref 211), (.int 445 0), (.int 125 0), (.str (so "/claim/cut.py") 446)])), (#[])⟩
noncomputable def ho255 (P : Params) : Obj := ⟨(.type "function"), none, (.func ⟨(so "fixity"), (so "fixity"), fA (nS B0 30), .stmts (fB (nS B0 30)), fS (nS B0 30), 3, [], .none, .none, .none, (.str (so "clausemill.operators") 421), none, (.ref 212), .none, 0⟩), (#[])⟩
noncomputable def ho258 (P : Params) : Obj := ⟨(.type "tuple"), none, (.seq (#[(.str (so "priority") 451), (.str (so "type_text") 452), (.str (so "lower") 453)]) 0), (#[])⟩
noncomputable def ho260 (P : Params) : Obj := ⟨.none, none, (.func ⟨(so "bounds"), (so "bounds"), fA (nS B0 31), .stmts (fB (nS B0 31)), fS (nS B0 31), 0, [], .none, .none, .none, .none, none, .none, .none, 0⟩), (#[])⟩
noncomputable def ho261 (P : Params) : Obj := ⟨(.type "code"), none, (.fields (#[(.str (so "bounds") 448), (.str (so "bounds") 449), (.str (so "/claim/cut.py") 450), (.int 133 0), (.int 2 0), (.int 0 0), (.int 0 0), (.int 3 0), (.ref 214), (.bool true), (.int 181 0), (.ref 215), .none, (.ref 216), (.ref 217), (.ref 218), (.int 454 0), (.int 133 0), (.str (so "/claim/cut.py") 455)])), (#[])⟩
noncomputable def ho262 (P : Params) : Obj := ⟨(.type "function"), none, (.func ⟨(so "bounds"), (so "bounds"), fA (nS B0 31), .stmts (fB (nS B0 31)), fS (nS B0 31), 3, [], .none, .none, .none, (.str (so "clausemill.operators") 421), none, (.ref 219), .none, 0⟩), (#[])⟩
noncomputable def ho263 (P : Params) : Obj := ⟨(.type "dict"), none, (.dict (#[⟨(PyData.keyHash P (so "__name__")), (.str (so "__name__") 165), (.str (so "clausemill.operators") 421)⟩, ⟨(PyData.keyHash P (so "__doc__")), (.str (so "__doc__") 166), .none⟩, ⟨(PyData.keyHash P (so "__package__")), (.str (so "__package__") 167), .none⟩, ⟨(PyData.keyHash P (so "__loader__")), (.str (so "__loader__") 168), (.builtin "__main__.__loader__#opaque")⟩, ⟨(PyData.keyHash P (so "__spec__")), (.str (so "__spec__") 169), .none⟩, ⟨(PyData.keyHash P (so "__annotations__")), (.str (so "__annotations__") 170), (.ref 6)⟩, ⟨(PyData.keyHash P (so "__builtins__")), (.str (so "__builtins__") 171), (.ref 4)⟩, ⟨(PyData.keyHash P (so "__file__")), (.str (so "__file__") 173), (.str (so "/claim/cut.py") 172)⟩, ⟨(PyData.keyHash P (so "__cached__")), (.str (so "__cached__") 174), .none⟩, ⟨(PyData.keyHash P (so "_wall")), (.str (so "_wall") 193), (.ref 21)⟩, ⟨(PyData.keyHash P (so "A_NIL")), (.str (so "A_NIL") 197), (.int (0 : Int) 196)⟩, ⟨(PyData.keyHash P (so "A_MINUS")), (.str (so "A_MINUS") 199), (.int (3 : Int) 198)⟩, ⟨(PyData.keyHash P (so "A_COMMA")), (.str (so "A_COMMA") 201), (.int (7 : Int) 200)⟩, ⟨(PyData.keyHash P (so "A_BAR")), (.str (so "A_BAR") 203), (.int (8 : Int) 202)⟩, ⟨(PyData.keyHash P (so "F_DOT")), (.str (so "F_DOT") 205), (.int (0 : Int) 204)⟩, ⟨(PyData.keyHash P (so "F_CURLY")), (.str (so "F_CURLY") 207), (.int (9 : Int) 206)⟩, ⟨(PyData.keyHash P (so "F_VARNAME")), (.str (so "F_VARNAME") 209), (.int (17 : Int) 208)⟩, ⟨(PyData.keyHash P (so "fixed_atoms")), (.str (so "fixed_atoms") 215), (.ref 28)⟩, ⟨(PyData.keyHash P (so "fixed_functors")), (.str (so "fixed_functors") 221), (.ref 35)⟩, ⟨(PyData.keyHash P (so "Symbols")), (.str (so "Symbols") 340), (.ref 122)⟩, ⟨(PyData.keyHash P (so "list_items")), (.str (so "list_items") 350), (.ref 133)⟩, ⟨(PyData.keyHash P (so "is_digit")), (.str (so "is_digit") 359), (.ref 140)⟩, ⟨(PyData.keyHash P (so "is_small")), (.str (so "is_small") 366), (.ref 147)⟩, ⟨(PyData.keyHash P (so "is_capital")), (.str (so "is_capital") 373), (.ref 154)⟩, ⟨(PyData.keyHash P (so "is_alnum")), (.str (so "is_alnum") 380), (.ref 161)⟩, ⟨(PyData.keyHash P (so "is_symbol")), (.str (so "is_symbol") 387), (.ref 168)⟩, ⟨(PyData.keyHash P (so "number_text")), (.str (so "number_text") 397), (.ref 175)⟩, ⟨(PyData.keyHash P (so "is_alnum_name")), (.str (so "is_alnum_name") 405), (.ref 182)⟩, ⟨(PyData.keyHash P (so "is_symbol_name")), (.str (so "is_symbol_name") 413), (.ref 189)⟩, ⟨(PyData.keyHash P (so "is_plain_name")), (.str (so "is_plain_name") 420), (.ref 196)⟩, ⟨(PyData.keyHash P (so "COMMA_PRIORITY")), (.str (so "COMMA_PRIORITY") 424), (.int (1000 : Int) 423)⟩, ⟨(PyData.keyHash P (so "PREFIX_TYPES")), (.str (so "PREFIX_TYPES") 427), (.ref 197)⟩, ⟨(PyData.keyHash P (so "INFIX_TYPES")), (.str (so "INFIX_TYPES") 431), (.ref 198)⟩, ⟨(PyData.keyHash P (so "POSTFIX_TYPES")), (.str (so "POSTFIX_TYPES") 434), (.ref 199)⟩, ⟨(PyData.keyHash P (so "standard_rows")), (.str (so "standard_rows") 440), (.ref 206)⟩, ⟨(PyData.keyHash P (so "fixity")), (.str (so "fixity") 447), (.ref 213)⟩, ⟨(PyData.keyHash P (so "bounds")), (.str (so "bounds") 456), (.ref 220)⟩, ⟨(PyData.keyHash P (so "OperatorTable")), (.str (so "OperatorTable") 556), (.ref 287)⟩]) 38), (#[])⟩
noncomputable def ho264 (P : Params) : Obj := ⟨.none, none, (.fields (#[(.int 1 0), (.int 0 0), (.ref 20), (.int 12 0), (.int 0 0), (.ref 27), (.int 14 0), (.int 0 0), (.ref 34), (.int 16 0), (.int 0 0), (.ref 41), (.int 71 0), (.int 0 0), (.ref 132), (.int 78 0), (.int 0 0), (.ref 139), (.int 80 0), (.int 0 0), (.ref 146), (.int 82 0), (.int 0 0), (.ref 153), (.int 84 0), (.int 0 0), (.ref 160), (.int 86 0), (.int 0 0), (.ref 167), (.int 88 0), (.int 0 0), (.ref 174), (.int 98 0), (.int 0 0), (.ref 181), (.int 105 0), (.int 0 0), (.ref 188), (.int 112 0), (.int 0 0), (.ref 195), (.int 123 0), (.int 0 0), (.ref 205), (.int 125 0), (.int 0 0), (.ref 212), (.int 133 0), (.int 0 0), (.ref 219), (.int 148 0), (.int 0 0), (.ref 226)])), (#[])⟩
noncomputable def ho267 (P : Params) : Obj := ⟨(.type "dict"), none, (.dict (#[⟨(PyData.keyHash P (so "__module__")), (.str (so "__module__") 464), (.str (so "clausemill.operators") 421)⟩, ⟨(PyData.keyHash P (so "__qualname__")), (.str (so "__qualname__") 466), (.str (so "OperatorTable") 465)⟩, ⟨(PyData.keyHash P (so "__firstlineno__")), (.str (so "__firstlineno__") 468), (.int (148 : Int) 467)⟩, ⟨(PyData.keyHash P (so "__init__")), (.str (so "__init__") 481), (.ref 235)⟩, ⟨(PyData.keyHash P (so "prefix")), (.str (so "prefix") 489), (.ref 242)⟩, ⟨(PyData.keyHash P (so "infix")), (.str (so "infix") 497), (.ref 249)⟩, ⟨(PyData.keyHash P (so "postfix")), (.str (so "postfix") 505), (.ref 256)⟩, ⟨(PyData.keyHash P (so "is_operator")), (.str (so "is_operator") 513), (.ref 263)⟩, ⟨(PyData.keyHash P (so "table_of")), (.str (so "table_of") 522), (.ref 270)⟩, ⟨(PyData.keyHash P (so "add")), (.str (so "add") 533), (.ref 277)⟩, ⟨(PyData.keyHash P (so "rows")), (.str (so "rows") 544), (.ref 284)⟩, ⟨(PyData.keyHash P (so "__static_attributes__")), (.str (so "__static_attributes__") 549), (.ref 285)⟩]) 12), (#[])⟩
noncomputable def ho269 (P : Params) : Obj := ⟨.none, none, (.fields (#[(.int 150 0), (.int 4 0), (.ref 234), (.int 161 0), (.int 4 0), (.ref 241), (.int 164 0), (.int 4 0), (.ref 248), (.int 167 0), (.int 4 0), (.ref 255), (.int 170 0), (.int 4 0), (.ref 262), (.int 173 0), (.int 4 0), (.ref 269), (.int 181 0), (.int 4 0), (.ref 276), (.int 188 0), (.int 4 0), (.ref 283)])), (#[])⟩
noncomputable def ho270 (P : Params) : Obj := ⟨(.type "code"), none, (.fields (#[(.str (so "OperatorTable") 459), (.str (so "OperatorTable") 460), (.str (so "/claim/cut.py") 461), (.int 148 0), (.int 0 0), (.int 0 0), (.int 0 0), (.int 0 0), (.ref 224), (.bool false), (.int 181 0), (.ref 225), .none, .none, .none, .none, (.int 462 0), (.int 148 0), (.str (so "/claim/cut.py") 463)])), (#[])⟩
noncomputable def ho271 (P : Params) : Obj := ⟨(.type "frame"), none, .plain, (#[(some (.ref 226)), (some (.ref 3)), (some (.ref 223)), none, (some (.str (so "clausemill.operators") 421)), none, (some (.ref 0))])⟩
noncomputable def ho272 (P : Params) : Obj := ⟨(.type "tuple"), none, (.seq (#[(.bool true)]) 0), (#[])⟩
noncomputable def ho275 (P : Params) : Obj := ⟨(.type "tuple"), none, (.seq (#[(.str (so "self") 472), (.str (so "symbols") 473), (.str (so "standard") 474), (.str (so "priority") 475), (.str (so "type_text") 476), (.str (so "names") 477), (.str (so "name") 478)]) 0), (#[])⟩
noncomputable def ho277 (P : Params) : Obj := ⟨.none, none, (.func ⟨(so "__init__"), (so "OperatorTable.__init__"), fA (nS (fB (nS B0 32)) 0), .stmts (fB (nS (fB (nS B0 32)) 0)), fS (nS (fB (nS B0 32)) 0), 0, [], .none, .none, .none, .none, none, .none, .none, 0⟩), (#[])⟩
noncomputable def ho278 (P : Params) : Obj := ⟨(.type "code"), none, (.fields (#[(.str (so "__init__") 469), (.str (so "OperatorTable.__init__") 470), (.str (so "/claim/cut.py") 471), (.int 150 0), (.int 3 0), (.int 0 0), (.int 0 0), (.int 3 0), (.ref 229), (.bool true), (.int 181 0), (.ref 230), .none, (.ref 231), (.ref 232), (.ref 233), (.int 479 0), (.int 150 0), (.str (so "/claim/cut.py") 480)])), (#[])⟩
noncomputable def ho279 (P : Params) : Obj := ⟨(.type "function"), none, (.func ⟨(so "__init__"), (so "OperatorTable.__init__"), fA (nS (fB (nS B0 32)) 0), .stmts (fB (nS (fB (nS B0 32)) 0)), fS (nS (fB (nS B0 32)) 0), 3, [], (.ref 228), .none, .none, (.str (so "clausemill.operators") 421), none, (.ref 234), .none, 0⟩), (#[])⟩
noncomputable def ho282 (P : Params) : Obj := ⟨(.type "tuple"), none, (.seq (#[(.str (so "self") 485), (.str (so "a") 486)]) 0), (#[])⟩
noncomputable def ho284 (P : Params) : Obj := ⟨.none, none, (.func ⟨(so "prefix"), (so "OperatorTable.prefix"), fA (nS (fB (nS B0 32)) 1), .stmts (fB (nS (fB (nS B0 32)) 1)), fS (nS (fB (nS B0 32)) 1), 0, [], .none, .none, .none, .none, none, .none, .none, 0⟩), (#[])⟩
noncomputable def ho285 (P : Params) : Obj := ⟨(.type "code"), none, (.fields (#[(.str (so "prefix") 482), (.str (so "OperatorTable.prefix") 483), (.str (so "/claim/cut.py") 484), (.int 161 0), (.int 2 0), (.int 0 0), (.int 0 0), (.int 3 0), (.ref 236), (.bool true), (.int 181 0), (.ref 237), .none, (.ref 238), (.ref 239), (.ref 240), (.int 487 0), (.int 161 0), (.str (so "/claim/cut.py") 488)])), (#[])⟩
noncomputable def ho286 (P : Params) : Obj := ⟨(.type "function"), none, (.func ⟨(so "prefix"), (so "OperatorTable.prefix"), fA (nS (fB (nS B0 32)) 1), .stmts (fB (nS (fB (nS B0 32)) 1)), fS (nS (fB (nS B0 32)) 1), 3, [], .none, .none, .none, (.str (so "clausemill.operators") 421), none, (.ref 241), .none, 0⟩), (#[])⟩
noncomputable def ho289 (P : Params) : Obj := ⟨(.type "tuple"), none, (.seq (#[(.str (so "self") 493), (.str (so "a") 494)]) 0), (#[])⟩
noncomputable def ho291 (P : Params) : Obj := ⟨.none, none, (.func ⟨(so "infix"), (so "OperatorTable.infix"), fA (nS (fB (nS B0 32)) 2), .stmts (fB (nS (fB (nS B0 32)) 2)), fS (nS (fB (nS B0 32)) 2), 0, [], .none, .none, .none, .none, none, .none, .none, 0⟩), (#[])⟩
noncomputable def ho292 (P : Params) : Obj := ⟨(.type "code"), none, (.fields (#[(.str (so "infix") 490), (.str (so "OperatorTable.infix") 491), (.str (so "/claim/cut.py") 492), (.int 164 0), (.int 2 0), (.int 0 0), (.int 0 0), (.int 3 0), (.ref 243), (.bool true), (.int 181 0), (.ref 244), .none, (.ref 245), (.ref 246), (.ref 247), (.int 495 0), (.int 164 0), (.str (so "/claim/cut.py") 496)])), (#[])⟩
noncomputable def ho293 (P : Params) : Obj := ⟨(.type "function"), none, (.func ⟨(so "infix"), (so "OperatorTable.infix"), fA (nS (fB (nS B0 32)) 2), .stmts (fB (nS (fB (nS B0 32)) 2)), fS (nS (fB (nS B0 32)) 2), 3, [], .none, .none, .none, (.str (so "clausemill.operators") 421), none, (.ref 248), .none, 0⟩), (#[])⟩
noncomputable def ho296 (P : Params) : Obj := ⟨(.type "tuple"), none, (.seq (#[(.str (so "self") 501), (.str (so "a") 502)]) 0), (#[])⟩
noncomputable def ho298 (P : Params) : Obj := ⟨.none, none, (.func ⟨(so "postfix"), (so "OperatorTable.postfix"), fA (nS (fB (nS B0 32)) 3), .stmts (fB (nS (fB (nS B0 32)) 3)), fS (nS (fB (nS B0 32)) 3), 0, [], .none, .none, .none, .none, none, .none, .none, 0⟩), (#[])⟩
noncomputable def ho299 (P : Params) : Obj := ⟨(.type "code"), none, (.fields (#[(.str (so "postfix") 498), (.str (so "OperatorTable.postfix") 499), (.str (so "/claim/cut.py") 500), (.int 167 0), (.int 2 0), (.int 0 0), (.int 0 0), (.int 3 0), (.ref 250), (.bool true), (.int 181 0), (.ref 251), .none, (.ref 252), (.ref 253), (.ref 254), (.int 503 0), (.int 167 0), (.str (so "/claim/cut.py") 504)])), (#[])⟩
noncomputable def ho300 (P : Params) : Obj := ⟨(.type "function"), none, (.func ⟨(so "postfix"), (so "OperatorTable.postfix"), fA (nS (fB (nS B0 32)) 3), .stmts (fB (nS (fB (nS B0 32)) 3)), fS (nS (fB (nS B0 32)) 3), 3, [], .none, .none, .none, (.str (so "clausemill.operators") 421), none, (.ref 255), .none, 0⟩), (#[])⟩
noncomputable def ho303 (P : Params) : Obj := ⟨(.type "tuple"), none, (.seq (#[(.str (so "self") 509), (.str (so "a") 510)]) 0), (#[])⟩
noncomputable def ho305 (P : Params) : Obj := ⟨.none, none, (.func ⟨(so "is_operator"), (so "OperatorTable.is_operator"), fA (nS (fB (nS B0 32)) 4), .stmts (fB (nS (fB (nS B0 32)) 4)), fS (nS (fB (nS B0 32)) 4), 0, [], .none, .none, .none, .none, none, .none, .none, 0⟩), (#[])⟩
noncomputable def ho306 (P : Params) : Obj := ⟨(.type "code"), none, (.fields (#[(.str (so "is_operator") 506), (.str (so "OperatorTable.is_operator") 507), (.str (so "/claim/cut.py") 508), (.int 170 0), (.int 2 0), (.int 0 0), (.int 0 0), (.int 3 0), (.ref 257), (.bool true), (.int 181 0), (.ref 258), .none, (.ref 259), (.ref 260), (.ref 261), (.int 511 0), (.int 170 0), (.str (so "/claim/cut.py") 512)])), (#[])⟩
noncomputable def ho307 (P : Params) : Obj := ⟨(.type "function"), none, (.func ⟨(so "is_operator"), (so "OperatorTable.is_operator"), fA (nS (fB (nS B0 32)) 4), .stmts (fB (nS (fB (nS B0 32)) 4)), fS (nS (fB (nS B0 32)) 4), 3, [], .none, .none, .none, (.str (so "clausemill.operators") 421), none, (.ref 262), .none, 0⟩), (#[])⟩
noncomputable def ho310 (P : Params) : Obj := ⟨(.type "tuple"), none, (.seq (#[(.str (so "self") 517), (.str (so "type_text") 518), (.str (so "kind") 519)]) 0), (#[])⟩
noncomputable def ho312 (P : Params) : Obj := ⟨.none, none, (.func ⟨(so "table_of"), (so "OperatorTable.table_of"), fA (nS (fB (nS B0 32)) 5), .stmts (fB (nS (fB (nS B0 32)) 5)), fS (nS (fB (nS B0 32)) 5), 0, [], .none, .none, .none, .none, none, .none, .none, 0⟩), (#[])⟩
noncomputable def ho313 (P : Params) : Obj := ⟨(.type "code"), none, (.fields (#[(.str (so "table_of") 514), (.str (so "OperatorTable.table_of") 515), (.str (so "/claim/cut.py") 516), (.int 173 0), (.int 2 0), (.int 0 0), (.int 0 0), (.int 3 0), (.ref 264), (.bool true), (.int 181 0), (.ref 265), .none, (.ref 266), (.ref 267), (.ref 268), (.int 520 0), (.int 173 0), (.str (so "/claim/cut.py") 521)])), (#[])⟩
noncomputable def ho314 (P : Params) : Obj := ⟨(.type "function"), none, (.func ⟨(so "table_of"), (so "OperatorTable.table_of"), fA (nS (fB (nS B0 32)) 5), .stmts (fB (nS (fB (nS B0 32)) 5)), fS (nS (fB (nS B0 32)) 5), 3, [], .none, .none, .none, (.str (so "clausemill.operators") 421), none, (.ref 269), .none, 0⟩), (#[])⟩
noncomputable def ho317 (P : Params) : Obj := ⟨(.type "tuple"), none, (.seq (#[(.str (so "self") 526), (.str (so "priority") 527), (.str (so "type_text") 528), (.str (so "a") 529), (.str (so "table") 530)]) 0), (#[])⟩
noncomputable def ho319 (P : Params) : Obj := ⟨.none, none, (.func ⟨(so "add"), (so "OperatorTable.add"), fA (nS (fB (nS B0 32)) 6), .stmts (fB (nS (fB (nS B0 32)) 6)), fS (nS (fB (nS B0 32)) 6), 0, [], .none, .none, .none, .none, none, .none, .none, 0⟩), (#[])⟩
noncomputable def ho320 (P : Params) : Obj := ⟨(.type "code"), none, (.fields (#[(.str (so "add") 523), (.str (so "OperatorTable.add") 524), (.str (so "/claim/cut.py") 525), (.int 181 0), (.int 4 0), (.int 0 0), (.int 0 0), (.int 3 0), (.ref 271), (.bool true), (.int 181 0), (.ref 272), .none, (.ref 273), (.ref 274), (.ref 275), (.int 531 0), (.int 181 0), (.str (so "/claim/cut.py") 532)])), (#[])⟩
noncomputable def ho321 (P : Params) : Obj := ⟨(.type "function"), none, (.func ⟨(so "add"), (so "OperatorTable.add"), fA (nS (fB (nS B0 32)) 6), .stmts (fB (nS (fB (nS B0 32)) 6)), fS (nS (fB (nS B0 32)) 6), 3, [], .none, .none, .none, (.str (so "clausemill.operators") 421), none, (.ref 276), .none, 0⟩), (#[])⟩
noncomputable def ho324 (P : Params) : Obj := ⟨(.type "tuple"), none, (.seq (#[(.str (so "self") 537), (.str (so "found") 538), (.str (so "table") 539), (.str (so "a") 540), (.str (so "entry") 541)]) 0), (#[])⟩
noncomputable def ho326 (P : Params) : Obj := ⟨.none, none, (.func ⟨(so "rows"), (so "OperatorTable.rows"), fA (nS (fB (nS B0 32)) 7), .stmts (fB (nS (fB (nS B0 32)) 7)), fS (nS (fB (nS B0 32)) 7), 0, [], .none, .none, .none, .none, none, .none, .none, 0⟩), (#[])⟩
noncomputable def ho327 (P : Params) : Obj := ⟨(.type "code"), none, (.fields (#[(.str (so "rows") 534), (.str (so "OperatorTable.rows") 535), (.str (so "/claim/cut.py") 536), (.int 188 0), (.int 1 0), (.int 0 0), (.int 0 0), (.int 3 0), (.ref 278), (.bool true), (.int 181 0), (.ref 279), .none, (.ref 280), (.ref 281), (.ref 282), (.int 542 0), (.int 188 0), (.str (so "/claim/cut.py") 543)])), (#[])⟩
noncomputable def ho328 (P : Params) : Obj := ⟨(.type "function"), none, (.func ⟨(so "rows"), (so "OperatorTable.rows"), fA (nS (fB (nS B0 32)) 7), .stmts (fB (nS (fB (nS B0 32)) 7)), fS (nS (fB (nS B0 32)) 7), 3, [], .none, .none, .none, (.str (so "clausemill.operators") 421), none, (.ref 283), .none, 0⟩), (#[])⟩
noncomputable def ho329 (P : Params) : Obj := ⟨(.type "tuple"), none, (.seq (#[(.str (so "infixes") 545), (.str (so "postfixes") 546), (.str (so "prefixes") 547), (.str (so "symbols") 548)]) 0), (#[])⟩
noncomputable def ho330 (P : Params) : Obj := ⟨(.type "dict"), none, (.dict (#[⟨(PyData.keyHash P (so "__module__")), (.str (so "__module__") 464), (.str (so "clausemill.operators") 421)⟩, ⟨(PyData.keyHash P (so "__firstlineno__")), (.str (so "__firstlineno__") 468), (.int (148 : Int) 467)⟩, ⟨(PyData.keyHash P (so "__init__")), (.str (so "__init__") 481), (.ref 235)⟩, ⟨(PyData.keyHash P (so "prefix")), (.str (so "prefix") 489), (.ref 242)⟩, ⟨(PyData.keyHash P (so "infix")), (.str (so "infix") 497), (.ref 249)⟩, ⟨(PyData.keyHash P (so "postfix")), (.str (so "postfix") 505), (.ref 256)⟩, ⟨(PyData.keyHash P (so "is_operator")), (.str (so "is_operator") 513), (.ref 263)⟩, ⟨(PyData.keyHash P (so "table_of")), (.str (so "table_of") 522), (.ref 270)⟩, ⟨(PyData.keyHash P (so "add")), (.str (so "add") 533), (.ref 277)⟩, ⟨(PyData.keyHash P (so "rows")), (.str (so "rows") 544), (.ref 284)⟩, ⟨(PyData.keyHash P (so "__static_attributes__")), (.str (so "__static_attributes__") 549), (.ref 285)⟩, ⟨(PyData.keyHash P (so "__dict__")), (.str (so "__dict__") 551), (.ref 288)⟩, ⟨(PyData.keyHash P (so "__weakref__")), (.str (so "__weakref__") 553), (.ref 289)⟩, ⟨(PyData.keyHash P (so "__doc__")), (.str (so "__doc__") 554), .none⟩]) 4), (#[])⟩
noncomputable def ho331 (P : Params) : Obj := ⟨(.type "type"), none, (.cls ⟨(so "OperatorTable"), [(.type "object")], [(.ref 287), (.type "object")], 286, (so "OperatorTable"), true, [], [], false, none, false⟩), (#[none, none, (some (.str (so "OperatorTable") 457)), (some (.str (so "OperatorTable") 465)), (some (.builtin "object.__new__")), (some (.bool true))])⟩
noncomputable def ho332 (P : Params) : Obj := ⟨(.type "getset_descriptor"), none, (.fields (#[(.str (so "__dict__") 550), (.ref 287), (.builtin "function.__dict__"), (.builtin "function.__dict__#set")])), (#[])⟩
noncomputable def ho333 (P : Params) : Obj := ⟨(.type "getset_descriptor"), none, (.fields (#[(.str (so "__weakref__") 552), (.ref 287), (.builtin "ExceptionGroup.__weakref__"), .none])), (#[])⟩
noncomputable def ho334 (P : Params) : Obj := ⟨(.type "super"), none, (.fields (#[(.ref 287), (.ref 287), (.ref 287)])), (#[])⟩
noncomputable def ho335 (P : Params) : Obj := ⟨(.type "builtin_function_or_method"), none, (.fields (#[(.builtin "object.__init_subclass__"), (.ref 287)])), (#[])⟩
noncomputable def ho336 (P : Params) : Obj := ⟨(.type "dict"), none, (.dict (#[⟨(PyData.keyHash P (so "__name__")), (.str (so "__name__") 165), (.str (so "clausemill.writer") 557)⟩, ⟨(PyData.keyHash P (so "__doc__")), (.str (so "__doc__") 166), .none⟩, ⟨(PyData.keyHash P (so "__package__")), (.str (so "__package__") 167), .none⟩, ⟨(PyData.keyHash P (so "__loader__")), (.str (so "__loader__") 168), (.builtin "__main__.__loader__#opaque")⟩, ⟨(PyData.keyHash P (so "__spec__")), (.str (so "__spec__") 169), .none⟩, ⟨(PyData.keyHash P (so "__annotations__")), (.str (so "__annotations__") 170), (.ref 6)⟩, ⟨(PyData.keyHash P (so "__builtins__")), (.str (so "__builtins__") 171), (.ref 4)⟩, ⟨(PyData.keyHash P (so "__file__")), (.str (so "__file__") 173), (.str (so "/claim/cut.py") 172)⟩, ⟨(PyData.keyHash P (so "__cached__")), (.str (so "__cached__") 174), .none⟩, ⟨(PyData.keyHash P (so "_wall")), (.str (so "_wall") 193), (.ref 21)⟩, ⟨(PyData.keyHash P (so "A_NIL")), (.str (so "A_NIL") 197), (.int (0 : Int) 196)⟩, ⟨(PyData.keyHash P (so "A_MINUS")), (.str (so "A_MINUS") 199), (.int (3 : Int) 198)⟩, ⟨(PyData.keyHash P (so "A_COMMA")), (.str (so "A_COMMA") 201), (.int (7 : Int) 200)⟩, ⟨(PyData.keyHash P (so "A_BAR")), (.str (so "A_BAR") 203), (.int (8 : Int) 202)⟩, ⟨(PyData.keyHash P (so "F_DOT")), (.str (so "F_DOT") 205), (.int (0 : Int) 204)⟩, ⟨(PyData.keyHash P (so "F_CURLY")), (.str (so "F_CURLY") 207), (.int (9 : Int) 206)⟩, ⟨(PyData.keyHash P (so "F_VARNAME")), (.str (so "F_VARNAME") 209), (.int (17 : Int) 208)⟩, ⟨(PyData.keyHash P (so "fixed_atoms")), (.str (so "fixed_atoms") 215), (.ref 28)⟩, ⟨(PyData.keyHash P (so "fixed_functors")), (.str (so "fixed_functors") 221), (.ref 35)⟩, ⟨(PyData.keyHash P (so "Symbols")), (.str (so "Symbols") 340), (.ref 122)⟩, ⟨(PyData.keyHash P (so "list_items")), (.str (so "list_items") 350), (.ref 133)⟩, ⟨(PyData.keyHash P (so "is_digit")), (.str (so "is_digit") 359), (.ref 140)⟩, ⟨(PyData.keyHash P (so "is_small")), (.str (so "is_small") 366), (.ref 147)⟩, ⟨(PyData.keyHash P (so "is_capital")), (.str (so "is_capital") 373), (.ref 154)⟩, ⟨(PyData.keyHash P (so "is_alnum")), (.str (so "is_alnum") 380), (.ref 161)⟩, ⟨(PyData.keyHash P (so "is_symbol")), (.str (so "is_symbol") 387), (.ref 168)⟩, ⟨(PyData.keyHash P (so "number_text")), (.str (so "number_text") 397), (.ref 175)⟩, ⟨(PyData.keyHash P (so "is_alnum_name")), (.str (so "is_alnum_name") 405), (.ref 182)⟩, ⟨(PyData.keyHash P (so "is_symbol_name")), (.str (so "is_symbol_name") 413), (.ref 189)⟩, ⟨(PyData.keyHash P (so "is_plain_name")), (.str (so "is_plain_name") 420), (.ref 196)⟩, ⟨(PyData.keyHash P (so "COMMA_PRIORITY")), (.str (so "COMMA_PRIORITY") 424), (.int (1000 : Int) 423)⟩, ⟨(PyData.keyHash P (so "PREFIX_TYPES")), (.str (so "PREFIX_TYPES") 427), (.ref 197)⟩, ⟨(PyData.keyHash P (so "INFIX_TYPES")), (.str (so "INFIX_TYPES") 431), (.ref 198)⟩, ⟨(PyData.keyHash P (so "POSTFIX_TYPES")), (.str (so "POSTFIX_TYPES") 434), (.ref 199)⟩, ⟨(PyData.keyHash P (so "standard_rows")), (.str (so "standard_rows") 440), (.ref 206)⟩, ⟨(PyData.keyHash P (so "fixity")), (.str (so "fixity") 447), (.ref 213)⟩, ⟨(PyData.keyHash P (so "bounds")), (.str (so "bounds") 456), (.ref 220)⟩, ⟨(PyData.keyHash P (so "OperatorTable")), (.str (so "OperatorTable") 556), (.ref 287)⟩, ⟨(PyData.keyHash P (so "WHOLE_PRIORITY")), (.str (so "WHOLE_PRIORITY") 560), (.int (1201 : Int) 559)⟩, ⟨(PyData.keyHash P (so "ARGUMENT_PRIORITY")), (.str (so "ARGUMENT_PRIORITY") 562), (.int (999 : Int) 561)⟩, ⟨(PyData.keyHash P (so "escaped")), (.str (so "escaped") 570), (.ref 298)⟩, ⟨(PyData.keyHash P (so "quoted_text")), (.str (so "quoted_text") 579), (.ref 305)⟩, ⟨(PyData.keyHash P (so "atom_text")), (.str (so "atom_text") 589), (.ref 313)⟩, ⟨(PyData.keyHash P (so "numbered_text")), (.str (so "numbered_text") 597), (.ref 320)⟩, ⟨(PyData.keyHash P (so "is_word")), (.str (so "is_word") 605), (.ref 327)⟩, ⟨(PyData.keyHash P (so "is_tight")), (.str (so "is_tight") 612), (.ref 334)⟩]) 46), (#[])⟩
noncomputable def ho337 (P : Params) : Obj := ⟨.none, none, (.fields (#[(.int 1 0), (.int 0 0), (.ref 20), (.int 12 0), (.int 0 0), (.ref 27), (.int 14 0), (.int 0 0), (.ref 34), (.int 16 0), (.int 0 0), (.ref 41), (.int 71 0), (.int 0 0), (.ref 132), (.int 78 0), (.int 0 0), (.ref 139), (.int 80 0), (.int 0 0), (.ref 146), (.int 82 0), (.int 0 0), (.ref 153), (.int 84 0), (.int 0 0), (.ref 160), (.int 86 0), (.int 0 0), (.ref 167), (.int 88 0), (.int 0 0), (.ref 174), (.int 98 0), (.int 0 0), (.ref 181), (.int 105 0), (.int 0 0), (.ref 188), (.int 112 0), (.int 0 0), (.ref 195), (.int 123 0), (.int 0 0), (.ref 205), (.int 125 0), (.int 0 0), (.ref 212), (.int 133 0), (.int 0 0), (.ref 219), (.int 148 0), (.int 0 0), (.ref 226), (.int 197 0), (.int 0 0), (.ref 297), (.int 206 0), (.int 0 0), (.ref 304), (.int 212 0), (.int 0 0), (.ref 312), (.int 217 0), (.int 0 0), (.ref 319), (.int 222 0), (.int 0 0), (.ref 326), (.int 225 0), (.int 0 0), (.ref 333)])), (#[])⟩
noncomputable def ho340 (P : Params) : Obj := ⟨(.type "tuple"), none, (.seq (#[(.str (so "code") 566), (.str (so "digits") 567)]) 0), (#[])⟩
noncomputable def ho342 (P : Params) : Obj := ⟨.none, none, (.func ⟨(so "escaped"), (so "escaped"), fA (nS B0 36), .stmts (fB (nS B0 36)), fS (nS B0 36), 0, [], .none, .none, .none, .none, none, .none, .none, 0⟩), (#[])⟩
noncomputable def ho343 (P : Params) : Obj := ⟨(.type "code"), none, (.fields (#[(.str (so "escaped") 563), (.str (so "escaped") 564), (.str (so "/claim/cut.py") 565), (.int 197 0), (.int 1 0), (.int 0 0), (.int 0 0), (.int 3 0), (.ref 292), (.bool true), (.int 181 0), (.ref 293), .none, (.ref 294), (.ref 295), (.ref 296), (.int 568 0), (.int 197 0), (.str (so "/claim/cut.py") 569)])), (#[])⟩
noncomputable def ho344 (P : Params) : Obj := ⟨(.type "function"), none, (.func ⟨(so "escaped"), (so "escaped"), fA (nS B0 36), .stmts (fB (nS B0 36)), fS (nS B0 36), 3, [], .none, .none, .none, (.str (so "clausemill.writer") 557), none, (.ref 297), .none, 0⟩), (#[])⟩
noncomputable def ho347 (P : Params) : Obj := ⟨(.type "tuple"), none, (.seq (#[(.str (so "text") 574), (.str (so "parts") 575), (.str (so "char") 576)]) 0), (#[])⟩
noncomputable def ho349 (P : Params) : Obj := ⟨.none, none, (.func ⟨(so "quoted_text"), (so "quoted_text"), fA (nS B0 37), .stmts (fB (nS B0 37)), fS (nS B0 37), 0, [], .none, .none, .none, .none, none, .none, .none, 0⟩), (#[])⟩
noncomputable def ho350 (P : Params) : Obj := ⟨(.type "code"), none, (.fields (#[(.str (so "quoted_text") 571), (.str (so "quoted_text") 572), (.str (so "/claim/cut.py") 573), (.int 206 0), (.int 1 0), (.int 0 0), (.int 0 0), (.int 3 0), (.ref 299), (.bool true), (.int 181 0), (.ref 300), .none, (.ref 301), (.ref 302), (.ref 303), (.int 577 0), (.int 206 0), (.str (so "/claim/cut.py") 578)])), (#[])⟩
noncomputable def ho351 (P : Params) : Obj := ⟨(.type "function"), none, (.func ⟨(so "quoted_text"), (so "quoted_text"), fA (nS B0 37), .stmts (fB (nS B0 37)), fS (nS B0 37), 3, [], .none, .none, .none, (.str (so "clausemill.writer") 557), none, (.ref 304), .none, 0⟩), (#[])⟩
noncomputable def ho355 (P : Params) : Obj := ⟨(.type "tuple"), none, (.seq (#[(.str (so "symbols") 583), (.str (so "a") 584), (.str (so "quoted") 585), (.str (so "text") 586)]) 0), (#[])⟩
noncomputable def ho357 (P : Params) : Obj := ⟨.none, none, (.func ⟨(so "atom_text"), (so "atom_text"), fA (nS B0 38), .stmts (fB (nS B0 38)), fS (nS B0 38), 0, [], .none, .none, .none, .none, none, .none, .none, 0⟩), (#[])⟩
noncomputable def ho358 (P : Params) : Obj := ⟨(.type "code"), none, (.fields (#[(.str (so "atom_text") 580), (.str (so "atom_text") 581), (.str (so "/claim/cut.py") 582), (.int 212 0), (.int 3 0), (.int 0 0), (.int 0 0), (.int 3 0), (.ref 307), (.bool true), (.int 181 0), (.ref 308), .none, (.ref 309), (.ref 310), (.ref 311), (.int 587 0), (.int 212 0), (.str (so "/claim/cut.py") 588)])), (#[])⟩
noncomputable def ho359 (P : Params) : Obj := ⟨(.type "function"), none, (.func ⟨(so "atom_text"), (so "atom_text"), fA (nS B0 38), .stmts (fB (nS B0 38)), fS (nS B0 38), 3, [], (.ref 306), .none, .none, (.str (so "clausemill.writer") 557), none, (.ref 312), .none, 0⟩), (#[])⟩
noncomputable def ho362 (P : Params) : Obj := ⟨(.type "tuple"), none, (.seq (#[(.str (so "number") 593), (.str (so "letter") 594)]) 0), (#[])⟩
noncomputable def ho364 (P : Params) : Obj := ⟨.none, none, (.func ⟨(so "numbered_text"), (so "numbered_text"), fA (nS B0 39), .stmts (fB (nS B0 39)), fS (nS B0 39), 0, [], .none, .none, .none, .none, none, .none, .none, 0⟩), (#[])⟩
noncomputable def ho365 (P : Params) : Obj := ⟨(.type "code"), none, (.fields (#[(.str (so "numbered_text") 590), (.str (so "numbered_text") 591), (.str (so "/claim/cut.py") 592), (.int 217 0), (.int 1 0), (.int 0 0), (.int 0 0), (.int 3 0), (.ref 314), (.bool true), (.int 181 0), (.ref 315), .none, (.ref 316), (.ref 317), (.ref 318), (.int 595 0), (.int 217 0), (.str (so "/claim/cut.py") 596)])), (#[])⟩
noncomputable def ho366 (P : Params) : Obj := ⟨(.type "function"), none, (.func ⟨(so "numbered_text"), (so "numbered_text"), fA (nS B0 39), .stmts (fB (nS B0 39)), fS (nS B0 39), 3, [], .none, .none, .none, (.str (so "clausemill.writer") 557), none, (.ref 319), .none, 0⟩), (#[])⟩
noncomputable def ho369 (P : Params) : Obj := ⟨(.type "tuple"), none, (.seq (#[(.str (so "char") 601), (.str (so "code") 602)]) 0), (#[])⟩
noncomputable def ho371 (P : Params) : Obj := ⟨.none, none, (.func ⟨(so "is_word"), (so "is_word"), fA (nS B0 40), .stmts (fB (nS B0 40)), fS (nS B0 40), 0, [], .none, .none, .none, .none, none, .none, .none, 0⟩), (#[])⟩
noncomputable def ho372 (P : Params) : Obj := ⟨(.type "code"), none, (.fields (#[(.str (so "is_word") 598), (.str (so "is_word") 599), (.str (so "/claim/cut.py") 600), (.int 222 0), (.int 1 0), (.int 0 0), (.int 0 0), (.int 3 0), (.ref 321), (.bool true), (.int 181 0), (.ref 322), .none, (.ref 323), (.ref 324), (.ref 325), (.int 603 0), (.int 222 0), (.str (so "/claim/cut.py") 604)])), (#[])⟩
noncomputable def ho373 (P : Params) : Obj := ⟨(.type "function"), none, (.func ⟨(so "is_word"), (so "is_word"), fA (nS B0 40), .stmts (fB (nS B0 40)), fS (nS B0 40), 3, [], .none, .none, .none, (.str (so "clausemill.writer") 557), none, (.ref 326), .none, 0⟩), (#[])⟩
noncomputable def ho376 (P : Params) : Obj := ⟨(.type "tuple"), none, (.seq (#[(.str (so "text") 609)]) 0), (#[])⟩
noncomputable def ho378 (P : Params) : Obj := ⟨.none, none, (.func ⟨(so "is_tight"), (so "is_tight"), fA (nS B0 41), .stmts (fB (nS B0 41)), fS (nS B0 41), 0, [], .none, .none, .none, .none, none, .none, .none, 0⟩), (#[])⟩
noncomputable def ho379 (P : Params) : Obj := ⟨(.type "code"), none, (.fields (#[(.str (so "is_tight") 606), (.str (so "is_tight") 607), (.str (so "/claim/cut.py") 608), (.int 225 0), (.int 1 0), (.int 0 0), (.int 0 0), (.int 3 0), (.ref 328), (.bool true), (.int 181 0), (.ref 329), .none, (.ref 330), (.ref 331), (.ref 332), (.int 610 0), (.int 225 0), (.str (so "/claim/cut.py") 611)])), (#[])⟩
noncomputable def ho380 (P : Params) : Obj := ⟨(.type "function"), none, (.func ⟨(so "is_tight"), (so "is_tight"), fA (nS B0 41), .stmts (fB (nS B0 41)), fS (nS B0 41), 3, [], .none, .none, .none, (.str (so "clausemill.writer") 557), none, (.ref 333), .none, 0⟩), (#[])⟩
noncomputable def ho381 (P : Params) : Obj := ⟨(.type "dict"), none, (.dict (#[⟨(PyData.keyHash P (so "__name__")), (.str (so "__name__") 165), (.str (so "clausemill.writer") 557)⟩, ⟨(PyData.keyHash P (so "__doc__")), (.str (so "__doc__") 166), .none⟩, ⟨(PyData.keyHash P (so "__package__")), (.str (so "__package__") 167), .none⟩, ⟨(PyData.keyHash P (so "__loader__")), (.str (so "__loader__") 168), (.builtin "__main__.__loader__#opaque")⟩, ⟨(PyData.keyHash P (so "__spec__")), (.str (so "__spec__") 169), .none⟩, ⟨(PyData.keyHash P (so "__annotations__")), (.str (so "__annotations__") 170), (.ref 6)⟩, ⟨(PyData.keyHash P (so "__builtins__")), (.str (so "__builtins__") 171), (.ref 4)⟩, ⟨(PyData.keyHash P (so "__file__")), (.str (so "__file__") 173), (.str (so "/claim/cut.py") 172)⟩, ⟨(PyData.keyHash P (so "__cached__")), (.str (so "__cached__") 174), .none⟩, ⟨(PyData.keyHash P (so "_wall")), (.str (so "_wall") 193), (.ref 21)⟩, ⟨(PyData.keyHash P (so "A_NIL")), (.str (so "A_NIL") 197), (.int (0 : Int) 196)⟩, ⟨(PyData.keyHash P (so "A_MINUS")), (.str (so "A_MINUS") 199), (.int (3 : Int) 198)⟩, ⟨(PyData.keyHash P (so "A_COMMA")), (.str (so "A_COMMA") 201), (.int (7 : Int) 200)⟩, ⟨(PyData.keyHash P (so "A_BAR")), (.str (so "A_BAR") 203), (.int (8 : Int) 202)⟩, ⟨(PyData.keyHash P (so "F_DOT")), (.str (so "F_DOT") 205), (.int (0 : Int) 204)⟩, ⟨(PyData.keyHash P (so "F_CURLY")), (.str (so "F_CURLY") 207), (.int (9 : Int) 206)⟩, ⟨(PyData.keyHash P (so "F_VARNAME")), (.str (so "F_VARNAME") 209), (.int (17 : Int) 208)⟩, ⟨(PyData.keyHash P (so "fixed_atoms")), (.str (so "fixed_atoms") 215), (.ref 28)⟩, ⟨(PyData.keyHash P (so "fixed_functors")), (.str (so "fixed_functors") 221), (.ref 35)⟩, ⟨(PyData.keyHash P (so "Symbols")), (.str (so "Symbols") 340), (.ref 122)⟩, ⟨(PyData.keyHash P (so "list_items")), (.str (so "list_items") 350), (.ref 133)⟩, ⟨(PyData.keyHash P (so "is_digit")), (.str (so "is_digit") 359), (.ref 140)⟩, ⟨(PyData.keyHash P (so "is_small")), (.str (so "is_small") 366), (.ref 147)⟩, ⟨(PyData.keyHash P (so "is_capital")), (.str (so "is_capital") 373), (.ref 154)⟩, ⟨(PyData.keyHash P (so "is_alnum")), (.str (so "is_alnum") 380), (.ref 161)⟩, ⟨(PyData.keyHash P (so "is_symbol")), (.str (so "is_symbol") 387), (.ref 168)⟩, ⟨(PyData.keyHash P (so "number_text")), (.str (so "number_text") 397), (.ref 175)⟩, ⟨(PyData.keyHash P (so "is_alnum_name")), (.str (so "is_alnum_name") 405), (.ref 182)⟩, ⟨(PyData.keyHash P (so "is_symbol_name")), (.str (so "is_symbol_name") 413), (.ref 189)⟩, ⟨(PyData.keyHash P (so "is_plain_name")), (.str (so "is_plain_name") 420), (.ref 196)⟩, ⟨(PyData.keyHash P (so "COMMA_PRIORITY")), (.str (so "COMMA_PRIORITY") 424), (.int (1000 : Int) 423)⟩, ⟨(PyData.keyHash P (so "PREFIX_TYPES")), (.str (so "PREFIX_TYPES") 427), (.ref 197)⟩, ⟨(PyData.keyHash P (so "INFIX_TYPES")), (.str (so "INFIX_TYPES") 431), (.ref 198)⟩, ⟨(PyData.keyHash P (so "POSTFIX_TYPES")), (.str (so "POSTFIX_TYPES") 434), (.ref 199)⟩, ⟨(PyData.keyHash P (so "standard_rows")), (.str (so "standard_rows") 440), (.ref 206)⟩, ⟨(PyData.keyHash P (so "fixity")), (.str (so "fixity") 447), (.ref 213)⟩, ⟨(PyData.keyHash P (so "bounds")), (.str (so "bounds") 456), (.ref 220)⟩, ⟨(PyData.keyHash P (so "OperatorTable")), (.str (so "OperatorTable") 556), (.ref 287)⟩, ⟨(PyData.keyHash P (so "WHOLE_PRIORITY")), (.str (so "WHOLE_PRIORITY") 560), (.int (1201 : Int) 559)⟩, ⟨(PyData.keyHash P (so "ARGUMENT_PRIORITY")), (.str (so "ARGUMENT_PRIORITY") 562), (.int (999 : Int) 561)⟩, ⟨(PyData.keyHash P (so "escaped")), (.str (so "escaped") 570), (.ref 298)⟩, ⟨(PyData.keyHash P (so "quoted_text")), (.str (so "quoted_text") 579), (.ref 305)⟩, ⟨(PyData.keyHash P (so "atom_text")), (.str (so "atom_text") 589), (.ref 313)⟩, ⟨(PyData.keyHash P (so "numbered_text")), (.str (so "numbered_text") 597), (.ref 320)⟩, ⟨(PyData.keyHash P (so "is_word")), (.str (so "is_word") 605), (.ref 327)⟩, ⟨(PyData.keyHash P (so "is_tight")), (.str (so "is_tight") 612), (.ref 334)⟩, ⟨(PyData.keyHash P (so "Writer")), (.str (so "Writer") 832), (.ref 472)⟩]) 47), (#[])⟩
noncomputable def ho382 (P : Params) : Obj := ⟨.none, none, (.fields (#[(.int 1 0), (.int 0 0), (.ref 20), (.int 12 0), (.int 0 0), (.ref 27), (.int 14 0), (.int 0 0), (.ref 34), (.int 16 0), (.int 0 0), (.ref 41), (.int 71 0), (.int 0 0), (.ref 132), (.int 78 0), (.int 0 0), (.ref 139), (.int 80 0), (.int 0 0), (.ref 146), (.int 82 0), (.int 0 0), (.ref 153), (.int 84 0), (.int 0 0), (.ref 160), (.int 86 0), (.int 0 0), (.ref 167), (.int 88 0), (.int 0 0), (.ref 174), (.int 98 0), (.int 0 0), (.ref 181), (.int 105 0), (.int 0 0), (.ref 188), (.int 112 0), (.int 0 0), (.ref 195), (.int 123 0), (.int 0 0), (.ref 205), (.int 125 0), (.int 0 0), (.ref 212), (.int 133 0), (.int 0 0), (.ref 219), (.int 148 0), (.int 0 0), (.ref 226), (.int 197 0), (.int 0 0), (.ref 297), (.int 206 0), (.int 0 0), (.ref 304), (.int 212 0), (.int 0 0), (.ref 312), (.int 217 0), (.int 0 0), (.ref 319), (.int 222 0), (.int 0 0), (.ref 326), (.int 225 0), (.int 0 0), (.ref 333), (.int 227 0), (.int 0 0), (.ref 340)])), (#[])⟩
noncomputable def ho385 (P : Params) : Obj := ⟨(.type "dict"), none, (.dict (#[⟨(PyData.keyHash P (so "__module__")), (.str (so "__module__") 620), (.str (so "clausemill.writer") 557)⟩, ⟨(PyData.keyHash P (so "__qualname__")), (.str (so "__qualname__") 622), (.str (so "Writer") 621)⟩, ⟨(PyData.keyHash P (so "__firstlineno__")), (.str (so "__firstlineno__") 624), (.int (227 : Int) 623)⟩, ⟨(PyData.keyHash P (so "__init__")), (.str (so "__init__") 639), (.ref 349)⟩, ⟨(PyData.keyHash P (so "text")), (.str (so "text") 652), (.ref 357)⟩, ⟨(PyData.keyHash P (so "raw")), (.str (so "raw") 660), (.ref 364)⟩, ⟨(PyData.keyHash P (so "token")), (.str (so "token") 668), (.ref 371)⟩, ⟨(PyData.keyHash P (so "needs_space")), (.str (so "needs_space") 676), (.ref 378)⟩, ⟨(PyData.keyHash P (so "later")), (.str (so "later") 685), (.ref 385)⟩, ⟨(PyData.keyHash P (so "write")), (.str (so "write") 697), (.ref 392)⟩, ⟨(PyData.keyHash P (so "variable_text")), (.str (so "variable_text") 706), (.ref 399)⟩, ⟨(PyData.keyHash P (so "is_numbered")), (.str (so "is_numbered") 714), (.ref 406)⟩, ⟨(PyData.keyHash P (so "write_atom")), (.str (so "write_atom") 724), (.ref 413)⟩, ⟨(PyData.keyHash P (so "write_list")), (.str (so "write_list") 736), (.ref 420)⟩, ⟨(PyData.keyHash P (so "write_functional")), (.str (so "write_functional") 746), (.ref 427)⟩, ⟨(PyData.keyHash P (so "shape")), (.str (so "shape") 757), (.ref 434)⟩, ⟨(PyData.keyHash P (so "write_operation")), (.str (so "write_operation") 775), (.ref 441)⟩, ⟨(PyData.keyHash P (so "left_limit")), (.str (so "left_limit") 786), (.ref 448)⟩, ⟨(PyData.keyHash P (so "prefix_operator")), (.str (so "prefix_operator") 795), (.ref 455)⟩, ⟨(PyData.keyHash P (so "infix_operator")), (.str (so "infix_operator") 804), (.ref 462)⟩, ⟨(PyData.keyHash P (so "postfix_operator")), (.str (so "postfix_operator") 813), (.ref 469)⟩, ⟨(PyData.keyHash P (so "__static_attributes__")), (.str (so "__static_attributes__") 825), (.ref 470)⟩]) 22), (#[])⟩
noncomputable def ho387 (P : Params) : Obj := ⟨.none, none, (.fields (#[(.int 229 0), (.int 4 0), (.ref 348), (.int 246 0), (.int 4 0), (.ref 356), (.int 263 0), (.int 4 0), (.ref 363), (.int 269 0), (.int 4 0), (.ref 370), (.int 275 0), (.int 4 0), (.ref 377), (.int 286 0), (.int 4 0), (.ref 384), (.int 290 0), (.int 4 0), (.ref 391), (.int 312 0), (.int 4 0), (.ref 398), (.int 320 0), (.int 4 0), (.ref 405), (.int 325 0), (.int 4 0), (.ref 412), (.int 334 0), (.int 4 0), (.ref 419), (.int 348 0), (.int 4 0), (.ref 426), (.int 360 0), (.int 4 0), (.ref 433), (.int 382 0), (.int 4 0), (.ref 440), (.int 402 0), (.int 4 0), (.ref 447), (.int 408 0), (.int 4 0), (.ref 454), (.int 416 0), (.int 4 0), (.ref 461), (.int 429 0), (.int 4 0), (.ref 468)])), (#[])⟩
noncomputable def ho388 (P : Params) : Obj := ⟨(.type "code"), none, (.fields (#[(.str (so "Writer") 615), (.str (so "Writer") 616), (.str (so "/claim/cut.py") 617), (.int 227 0), (.int 0 0), (.int 0 0), (.int 0 0), (.int 0 0), (.ref 338), (.bool false), (.int 181 0), (.ref 339), .none, .none, .none, .none, (.int 618 0), (.int 227 0), (.str (so "/claim/cut.py") 619)])), (#[])⟩
noncomputable def ho389 (P : Params) : Obj := ⟨(.type "frame"), none, .plain, (#[(some (.ref 340)), (some (.ref 3)), (some (.ref 337)), none, (some (.str (so "clausemill.writer") 557)), none, (some (.ref 0))])⟩
noncomputable def ho390 (P : Params) : Obj := ⟨(.type "tuple"), none, (.seq (#[(.bool true), (.bool false), (.bool false), .none]) 0), (#[])⟩
noncomputable def ho393 (P : Params) : Obj := ⟨(.type "tuple"), none, (.seq (#[(.str (so "self") 628), (.str (so "symbols") 629), (.str (so "operators") 630), (.str (so "quoted") 631), (.str (so "ignore_ops") 632), (.str (so "numbervars") 633), (.str (so "names") 634), (.str (so "k") 635), (.str (so "text") 636)]) 0), (#[])⟩
noncomputable def ho395 (P : Params) : Obj := ⟨.none, none, (.func ⟨(so "__init__"), (so "Writer.__init__"), fA (nS (fB (nS B0 42)) 0), .stmts (fB (nS (fB (nS B0 42)) 0)), fS (nS (fB (nS B0 42)) 0), 0, [], .none, .none, .none, .none, none, .none, .none, 0⟩), (#[])⟩
noncomputable def ho396 (P : Params) : Obj := ⟨(.type "code"), none, (.fields (#[(.str (so "__init__") 625), (.str (so "Writer.__init__") 626), (.str (so "/claim/cut.py") 627), (.int 229 0), (.int 7 0), (.int 0 0), (.int 0 0), (.int 3 0), (.ref 343), (.bool true), (.int 181 0), (.ref 344), .none, (.ref 345), (.ref 346), (.ref 347), (.int 637 0), (.int 229 0), (.str (so "/claim/cut.py") 638)])), (#[])⟩
noncomputable def ho397 (P : Params) : Obj := ⟨(.type "function"), none, (.func ⟨(so "__init__"), (so "Writer.__init__"), fA (nS (fB (nS B0 42)) 0), .stmts (fB (nS (fB (nS B0 42)) 0)), fS (nS (fB (nS B0 42)) 0), 3, [], (.ref 342), .none, .none, (.str (so "clausemill.writer") 557), none, (.ref 348), .none, 0⟩), (#[])⟩
noncomputable def ho398 (P : Params) : Obj := ⟨(.type "tuple"), none, (.seq (#[(.int (1201 : Int) 559)]) 0), (#[])⟩
noncomputable def ho401 (P : Params) : Obj := ⟨(.type "tuple"), none, (.seq (#[(.str (so "self") 643), (.str (so "term") 644), (.str (so "most") 645), (.str (so "kind") 646), (.str (so "item") 647), (.str (so "limit") 648), (.str (so "alone") 649)]) 0), (#[])⟩
noncomputable def ho403 (P : Params) : Obj := ⟨.none, none, (.func ⟨(so "text"), (so "Writer.text"), fA (nS (fB (nS B0 42)) 1), .stmts (fB (nS (fB (nS B0 42)) 1)), fS (nS (fB (nS B0 42)) 1), 0, [], .none, .none, .none, .none, none, .none, .none, 0⟩), (#[])⟩
noncomputable def ho404 (P : Params) : Obj := ⟨(.type "code"), none, (.fields (#[(.str (so "text") 640), (.str (so "Writer.text") 641), (.str (so "/claim/cut.py") 642), (.int 246 0), (.int 3 0), (.int 0 0), (.int 0 0), (.int 3 0), (.ref 351), (.bool true), (.int 181 0), (.ref 352), .none, (.ref 353), (.ref 354), (.ref 355), (.int 650 0), (.int 246 0), (.str (so "/claim/cut.py") 651)])), (#[])⟩
noncomputable def ho405 (P : Params) : Obj := ⟨(.type "function"), none, (.func ⟨(so "text"), (so "Writer.text"), fA (nS (fB (nS B0 42)) 1), .stmts (fB (nS (fB (nS B0 42)) 1)), fS (nS (fB (nS B0 42)) 1), 3, [], (.ref 350), .none, .none, (.str (so "clausemill.writer") 557), none, (.ref 356), .none, 0⟩), (#[])⟩
noncomputable def ho408 (P : Params) : Obj := ⟨(.type "tuple"), none, (.seq (#[(.str (so "self") 656), (.str (so "text") 657)]) 0), (#[])⟩
noncomputable def ho410 (P : Params) : Obj := ⟨.none, none, (.func ⟨(so "raw"), (so "Writer.raw"), fA (nS (fB (nS B0 42)) 2), .stmts (fB (nS (fB (nS B0 42)) 2)), fS (nS (fB (nS B0 42)) 2), 0, [], .none, .none, .none, .none, none, .none, .none, 0⟩), (#[])⟩
noncomputable def ho411 (P : Params) : Obj := ⟨(.type "code"), none, (.fields (#[(.str (so "raw") 653), (.str (so "Writer.raw") 654), (.str (so "/claim/cut.py") 655), (.int 263 0), (.int 2 0), (.int 0 0), (.int 0 0), (.int 3 0), (.ref 358), (.bool true), (.int 181 0), (.ref 359), .none, (.ref 360), (.ref 361), (.ref 362), (.int 658 0), (.int 263 0), (.str (so "/claim/cut.py") 659)])), (#[])⟩
noncomputable def ho412 (P : Params) : Obj := ⟨(.type "function"), none, (.func ⟨(so "raw"), (so "Writer.raw"), fA (nS (fB (nS B0 42)) 2), .stmts (fB (nS (fB (nS B0 42)) 2)), fS (nS (fB (nS B0 42)) 2), 3, [], .none, .none, .none, (.str (so "clausemill.writer") 557), none, (.ref 363), .none, 0⟩), (#[])⟩
noncomputable def ho415 (P : Params) : Obj := ⟨(.type "tuple"), none, (.seq (#[(.str (so "self") 664), (.str (so "text") 665)]) 0), (#[])⟩
noncomputable def ho417 (P : Params) : Obj := ⟨.none, none, (.func ⟨(so "token"), (so "Writer.token"), fA (nS (fB (nS B0 42)) 3), .stmts (fB (nS (fB (nS B0 42)) 3)), fS (nS (fB (nS B0 42)) 3), 0, [], .none, .none, .none, .none, none, .none, .none, 0⟩), (#[])⟩
noncomputable def ho418 (P : Params) : Obj := ⟨(.type "code"), none, (.fields (#[(.str (so "token") 661), (.str (so "Writer.token") 662), (.str (so "/claim/cut.py") 663), (.int 269 0), (.int 2 0), (.int 0 0), (.int 0 0), (.int 3 0), (.ref 365), (.bool true), (.int 181 0), (.ref 366), .none, (.ref 367), (.ref 368), (.ref 369), (.int 666 0), (.int 269 0), (.str (so "/claim/cut.py") 667)])), (#[])⟩
noncomputable def ho419 (P : Params) : Obj := ⟨(.type "function"), none, (.func ⟨(so "token"), (so "Writer.token"), fA (nS (fB (nS B0 42)) 3), .stmts (fB (nS (fB (nS B0 42)) 3)), fS (nS (fB (nS B0 42)) 3), 3, [], .none, .none, .none, (.str (so "clausemill.writer") 557), none, (.ref 370), .none, 0⟩), (#[])⟩
noncomputable def ho422 (P : Params) : Obj := ⟨(.type "tuple"), none, (.seq (#[(.str (so "self") 672), (.str (so "first") 673)]) 0), (#[])⟩
noncomputable def ho424 (P : Params) : Obj := ⟨.none, none, (.func ⟨(so "needs_space"), (so "Writer.needs_space"), fA (nS (fB (nS B0 42)) 4), .stmts (fB (nS (fB (nS B0 42)) 4)), fS (nS (fB (nS B0 42)) 4), 0, [], .none, .none, .none, .none, none, .none, .none, 0⟩), (#[])⟩
noncomputable def ho425 (P : Params) : Obj := ⟨(.type "code"), none, (.fields (#[(.str (so "needs_space") 669), (.str (so "Writer.needs_space") 670), (.str (so "/claim/cut.py") 671), (.int 275 0), (.int 2 0), (.int 0 0), (.int 0 0), (.int 3 0), (.ref 372), (.bool true), (.int 181 0), (.ref 373), .none, (.ref 374), (.ref 375), (.ref 376), (.int 674 0), (.int 275 0), (.str (so "/claim/cut.py") 675)])), (#[])⟩
noncomputable def ho426 (P : Params) : Obj := ⟨(.type "function"), none, (.func ⟨(so "needs_space"), (so "Writer.needs_space"), fA (nS (fB (nS B0 42)) 4), .stmts (fB (nS (fB (nS B0 42)) 4)), fS (nS (fB (nS B0 42)) 4), 3, [], .none, .none, .none, (.str (so "clausemill.writer") 557), none, (.ref 377), .none, 0⟩), (#[])⟩
noncomputable def ho429 (P : Params) : Obj := ⟨(.type "tuple"), none, (.seq (#[(.str (so "self") 680), (.str (so "items") 681), (.str (so "item") 682)]) 0), (#[])⟩
noncomputable def ho431 (P : Params) : Obj := ⟨.none, none, (.func ⟨(so "later"), (so "Writer.later"), fA (nS (fB (nS B0 42)) 5), .stmts (fB (nS (fB (nS B0 42)) 5)), fS (nS (fB (nS B0 42)) 5), 0, [], .none, .none, .none, .none, none, .none, .none, 0⟩), (#[])⟩
noncomputable def ho432 (P : Params) : Obj := ⟨(.type "code"), none, (.fields (#[(.str (so "later") 677), (.str (so "Writer.later") 678), (.str (so "/claim/cut.py") 679), (.int 286 0), (.int 2 0), (.int 0 0), (.int 0 0), (.int 3 0), (.ref 379), (.bool true), (.int 181 0), (.ref 380), .none, (.ref 381), (.ref 382), (.ref 383), (.int 683 0), (.int 286 0), (.str (so "/claim/cut.py") 684)])), (#[])⟩
noncomputable def ho433 (P : Params) : Obj := ⟨(.type "function"), none, (.func ⟨(so "later"), (so "Writer.later"), fA (nS (fB (nS B0 42)) 5), .stmts (fB (nS (fB (nS B0 42)) 5)), fS (nS (fB (nS B0 42)) 5), 3, [], .none, .none, .none, (.str (so "clausemill.writer") 557), none, (.ref 384), .none, 0⟩), (#[])⟩
noncomputable def ho436 (P : Params) : Obj := ⟨(.type "tuple"), none, (.seq (#[(.str (so "self") 689), (.str (so "term") 690), (.str (so "most") 691), (.str (so "alone") 692), (.str (so "kind") 693), (.str (so "shape") 694)]) 0), (#[])⟩
noncomputable def ho438 (P : Params) : Obj := ⟨.none, none, (.func ⟨(so "write"), (so "Writer.write"), fA (nS (fB (nS B0 42)) 6), .stmts (fB (nS (fB (nS B0 42)) 6)), fS (nS (fB (nS B0 42)) 6), 0, [], .none, .none, .none, .none, none, .none, .none, 0⟩), (#[])⟩
noncomputable def ho439 (P : Params) : Obj := ⟨(.type "code"), none, (.fields (#[(.str (so "write") 686), (.str (so "Writer.write") 687), (.str (so "/claim/cut.py") 688), (.int 290 0), (.int 4 0), (.int 0 0), (.int 0 0), (.int 3 0), (.ref 386), (.bool true), (.int 181 0), (.ref 387), .none, (.ref 388), (.ref 389), (.ref 390), (.int 695 0), (.int 290 0), (.str (so "/claim/cut.py") 696)])), (#[])⟩
noncomputable def ho440 (P : Params) : Obj := ⟨(.type "function"), none, (.func ⟨(so "write"), (so "Writer.write"), fA (nS (fB (nS B0 42)) 6), .stmts (fB (nS (fB (nS B0 42)) 6)), fS (nS (fB (nS B0 42)) 6), 3, [], .none, .none, .none, (.str (so "clausemill.writer") 557), none, (.ref 391), .none, 0⟩), (#[])⟩
noncomputable def ho443 (P : Params) : Obj := ⟨(.type "tuple"), none, (.seq (#[(.str (so "self") 701), (.str (so "k") 702), (.str (so "text") 703)]) 0), (#[])⟩
noncomputable def ho445 (P : Params) : Obj := ⟨.none, none, (.func ⟨(so "variable_text"), (so "Writer.variable_text"), fA (nS (fB (nS B0 42)) 7), .stmts (fB (nS (fB (nS B0 42)) 7)), fS (nS (fB (nS B0 42)) 7), 0, [], .none, .none, .none, .none, none, .none, .none, 0⟩), (#[])⟩
noncomputable def ho446 (P : Params) : Obj := ⟨(.type "code"), none, (.fields (#[(.str (so "variable_text") 698), (.str (so "Writer.variable_text") 699), (.str (so "/claim/cut.py") 700), (.int 312 0), (.int 2 0), (.int 0 0), (.int 0 0), (.int 3 0), (.ref 393), (.bool true), (.int 181 0), (.ref 394), .none, (.ref 395), (.ref 396), (.ref 397), (.int 704 0), (.int 312 0), (.str (so "/claim/cut.py") 705)])), (#[])⟩
noncomputable def ho447 (P : Params) : Obj := ⟨(.type "function"), none, (.func ⟨(so "variable_text"), (so "Writer.variable_text"), fA (nS (fB (nS B0 42)) 7), .stmts (fB (nS (fB (nS B0 42)) 7)), fS (nS (fB (nS B0 42)) 7), 3, [], .none, .none, .none, (.str (so "clausemill.writer") 557), none, (.ref 398), .none, 0⟩), (#[])⟩
noncomputable def ho450 (P : Params) : Obj := ⟨(.type "tuple"), none, (.seq (#[(.str (so "self") 710), (.str (so "term") 711)]) 0), (#[])⟩
noncomputable def ho452 (P : Params) : Obj := ⟨.none, none, (.func ⟨(so "is_numbered"), (so "Writer.is_numbered"), fA (nS (fB (nS B0 42)) 8), .stmts (fB (nS (fB (nS B0 42)) 8)), fS (nS (fB (nS B0 42)) 8), 0, [], .none, .none, .none, .none, none, .none, .none, 0⟩), (#[])⟩
noncomputable def ho453 (P : Params) : Obj := ⟨(.type "code"), none, (.fields (#[(.str (so "is_numbered") 707), (.str (so "Writer.is_numbered") 708), (.str (so "/claim/cut.py") 709), (.int 320 0), (.int 2 0), (.int 0 0), (.int 0 0), (.int 3 0), (.ref 400), (.bool true), (.int 181 0), (.ref 401), .none, (.ref 402), (.ref 403), (.ref 404), (.int 712 0), (.int 320 0), (.str (so "/claim/cut.py") 713)])), (#[])⟩
noncomputable def ho454 (P : Params) : Obj := ⟨(.type "function"), none, (.func ⟨(so "is_numbered"), (so "Writer.is_numbered"), fA (nS (fB (nS B0 42)) 8), .stmts (fB (nS (fB (nS B0 42)) 8)), fS (nS (fB (nS B0 42)) 8), 3, [], .none, .none, .none, (.str (so "clausemill.writer") 557), none, (.ref 405), .none, 0⟩), (#[])⟩
noncomputable def ho457 (P : Params) : Obj := ⟨(.type "tuple"), none, (.seq (#[(.str (so "self") 718), (.str (so "a") 719), (.str (so "alone") 720), (.str (so "text") 721)]) 0), (#[])⟩
noncomputable def ho459 (P : Params) : Obj := ⟨.none, none, (.func ⟨(so "write_atom"), (so "Writer.write_atom"), fA (nS (fB (nS B0 42)) 9), .stmts (fB (nS (fB (nS B0 42)) 9)), fS (nS (fB (nS B0 42)) 9), 0, [], .none, .none, .none, .none, none, .none, .none, 0⟩), (#[])⟩
noncomputable def ho460 (P : Params) : Obj := ⟨(.type "code"), none, (.fields (#[(.str (so "write_atom") 715), (.str (so "Writer.write_atom") 716), (.str (so "/claim/cut.py") 717), (.int 325 0), (.int 3 0), (.int 0 0), (.int 0 0), (.int 3 0), (.ref 407), (.bool true), (.int 181 0), (.ref 408), .none, (.ref 409), (.ref 410), (.ref 411), (.int 722 0), (.int 325 0), (.str (so "/claim/cut.py") 723)])), (#[])⟩
noncomputable def ho461 (P : Params) : Obj := ⟨(.type "function"), none, (.func ⟨(so "write_atom"), (so "Writer.write_atom"), fA (nS (fB (nS B0 42)) 9), .stmts (fB (nS (fB (nS B0 42)) 9)), fS (nS (fB (nS B0 42)) 9), 3, [], .none, .none, .none, (.str (so "clausemill.writer") 557), none, (.ref 412), .none, 0⟩), (#[])⟩
noncomputable def ho464 (P : Params) : Obj := ⟨(.type "tuple"), none, (.seq (#[(.str (so "self") 728), (.str (so "term") 729), (.str (so "items") 730), (.str (so "tail") 731), (.str (so "rows") 732), (.str (so "item") 733)]) 0), (#[])⟩
noncomputable def ho466 (P : Params) : Obj := ⟨.none, none, (.func ⟨(so "write_list"), (so "Writer.write_list"), fA (nS (fB (nS B0 42)) 10), .stmts (fB (nS (fB (nS B0 42)) 10)), fS (nS (fB (nS B0 42)) 10), 0, [], .none, .none, .none, .none, none, .none, .none, 0⟩), (#[])⟩
noncomputable def ho467 (P : Params) : Obj := ⟨(.type "code"), none, (.fields (#[(.str (so "write_list") 725), (.str (so "Writer.write_list") 726), (.str (so "/claim/cut.py") 727), (.int 334 0), (.int 2 0), (.int 0 0), (.int 0 0), (.int 3 0), (.ref 414), (.bool true), (.int 181 0), (.ref 415), .none, (.ref 416), (.ref 417), (.ref 418), (.int 734 0), (.int 334 0), (.str (so "/claim/cut.py") 735)])), (#[])⟩
noncomputable def ho468 (P : Params) : Obj := ⟨(.type "function"), none, (.func ⟨(so "write_list"), (so "Writer.write_list"), fA (nS (fB (nS B0 42)) 10), .stmts (fB (nS (fB (nS B0 42)) 10)), fS (nS (fB (nS B0 42)) 10), 3, [], .none, .none, .none, (.str (so "clausemill.writer") 557), none, (.ref 419), .none, 0⟩), (#[])⟩
noncomputable def ho471 (P : Params) : Obj := ⟨(.type "tuple"), none, (.seq (#[(.str (so "self") 740), (.str (so "term") 741), (.str (so "rows") 742), (.str (so "item") 743)]) 0), (#[])⟩
noncomputable def ho473 (P : Params) : Obj := ⟨.none, none, (.func ⟨(so "write_functional"), (so "Writer.write_functional"), fA (nS (fB (nS B0 42)) 11), .stmts (fB (nS (fB (nS B0 42)) 11)), fS (nS (fB (nS B0 42)) 11), 0, [], .none, .none, .none, .none, none, .none, .none, 0⟩), (#[])⟩
noncomputable def ho474 (P : Params) : Obj := ⟨(.type "code"), none, (.fields (#[(.str (so "write_functional") 737), (.str (so "Writer.write_functional") 738), (.str (so "/claim/cut.py") 739), (.int 348 0), (.int 2 0), (.int 0 0), (.int 0 0), (.int 3 0), (.ref 421), (.bool true), (.int 181 0), (.ref 422), .none, (.ref 423), (.ref 424), (.ref 425), (.int 744 0), (.int 348 0), (.str (so "/claim/cut.py") 745)])), (#[])⟩
noncomputable def ho475 (P : Params) : Obj := ⟨(.type "function"), none, (.func ⟨(so "write_functional"), (so "Writer.write_functional"), fA (nS (fB (nS B0 42)) 11), .stmts (fB (nS (fB (nS B0 42)) 11)), fS (nS (fB (nS B0 42)) 11), 3, [], .none, .none, .none, (.str (so "clausemill.writer") 557), none, (.ref 426), .none, 0⟩), (#[])⟩
noncomputable def ho478 (P : Params) : Obj := ⟨(.type "tuple"), none, (.seq (#[(.str (so "self") 750), (.str (so "term") 751), (.str (so "name") 752), (.str (so "args") 753), (.str (so "entry") 754)]) 0), (#[])⟩
noncomputable def ho480 (P : Params) : Obj := ⟨.none, none, (.func ⟨(so "shape"), (so "Writer.shape"), fA (nS (fB (nS B0 42)) 12), .stmts (fB (nS (fB (nS B0 42)) 12)), fS (nS (fB (nS B0 42)) 12), 0, [], .none, .none, .none, .none, none, .none, .none, 0⟩), (#[])⟩
noncomputable def ho481 (P : Params) : Obj := ⟨(.type "code"), none, (.fields (#[(.str (so "shape") 747), (.str (so "Writer.shape") 748), (.str (so "/claim/cut.py") 749), (.int 360 0), (.int 2 0), (.int 0 0), (.int 0 0), (.int 3 0), (.ref 428), (.bool true), (.int 181 0), (.ref 429), .none, (.ref 430), (.ref 431), (.ref 432), (.int 755 0), (.int 360 0), (.str (so "/claim/cut.py") 756)])), (#[])⟩
noncomputable def ho482 (P : Params) : Obj := ⟨(.type "function"), none, (.func ⟨(so "shape"), (so "Writer.shape"), fA (nS (fB (nS B0 42)) 12), .stmts (fB (nS (fB (nS B0 42)) 12)), fS (nS (fB (nS B0 42)) 12), 3, [], .none, .none, .none, (.str (so "clausemill.writer") 557), none, (.ref 433), .none, 0⟩), (#[])⟩
noncomputable def ho485 (P : Params) : Obj := ⟨(.type "tuple"), none, (.seq (#[(.str (so "self") 761), (.str (so "term") 762), (.str (so "shape") 763), (.str (so "most") 764), (.str (so "kind") 765), (.str (so "priority") 766), (.str (so "type_text") 767), (.str (so "left") 768), (.str (so "right") 769), (.str (so "name") 770), (.str (so "args") 771), (.str (so "rows") 772)]) 0), (#[])⟩
noncomputable def ho487 (P : Params) : Obj := ⟨.none, none, (.func ⟨(so "write_operation"), (so "Writer.write_operation"), fA (nS (fB (nS B0 42)) 13), .stmts (fB (nS (fB (nS B0 42)) 13)), fS (nS (fB (nS B0 42)) 13), 0, [], .none, .none, .none, .none, none, .none, .none, 0⟩), (#[])⟩
noncomputable def ho488 (P : Params) : Obj := ⟨(.type "code"), none, (.fields (#[(.str (so "write_operation") 758), (.str (so "Writer.write_operation") 759), (.str (so "/claim/cut.py") 760), (.int 382 0), (.int 4 0), (.int 0 0), (.int 0 0), (.int 3 0), (.ref 435), (.bool true), (.int 181 0), (.ref 436), .none, (.ref 437), (.ref 438), (.ref 439), (.int 773 0), (.int 382 0), (.str (so "/claim/cut.py") 774)])), (#[])⟩
noncomputable def ho489 (P : Params) : Obj := ⟨(.type "function"), none, (.func ⟨(so "write_operation"), (so "Writer.write_operation"), fA (nS (fB (nS B0 42)) 13), .stmts (fB (nS (fB (nS B0 42)) 13)), fS (nS (fB (nS B0 42)) 13), 3, [], .none, .none, .none, (.str (so "clausemill.writer") 557), none, (.ref 440), .none, 0⟩), (#[])⟩
noncomputable def ho492 (P : Params) : Obj := ⟨(.type "tuple"), none, (.seq (#[(.str (so "self") 779), (.str (so "operand") 780), (.str (so "priority") 781), (.str (so "most") 782), (.str (so "shape") 783)]) 0), (#[])⟩
noncomputable def ho494 (P : Params) : Obj := ⟨.none, none, (.func ⟨(so "left_limit"), (so "Writer.left_limit"), fA (nS (fB (nS B0 42)) 14), .stmts (fB (nS (fB (nS B0 42)) 14)), fS (nS (fB (nS B0 42)) 14), 0, [], .none, .none, .none, .none, none, .none, .none, 0⟩), (#[])⟩
noncomputable def ho495 (P : Params) : Obj := ⟨(.type "code"), none, (.fields (#[(.str (so "left_limit") 776), (.str (so "Writer.left_limit") 777), (.str (so "/claim/cut.py") 778), (.int 402 0), (.int 4 0), (.int 0 0), (.int 0 0), (.int 3 0), (.ref 442), (.bool true), (.int 181 0), (.ref 443), .none, (.ref 444), (.ref 445), (.ref 446), (.int 784 0), (.int 402 0), (.str (so "/claim/cut.py") 785)])), (#[])⟩
noncomputable def ho496 (P : Params) : Obj := ⟨(.type "function"), none, (.func ⟨(so "left_limit"), (so "Writer.left_limit"), fA (nS (fB (nS B0 42)) 14), .stmts (fB (nS (fB (nS B0 42)) 14)), fS (nS (fB (nS B0 42)) 14), 3, [], .none, .none, .none, (.str (so "clausemill.writer") 557), none, (.ref 447), .none, 0⟩), (#[])⟩
noncomputable def ho499 (P : Params) : Obj := ⟨(.type "tuple"), none, (.seq (#[(.str (so "self") 790), (.str (so "a") 791), (.str (so "text") 792)]) 0), (#[])⟩
noncomputable def ho501 (P : Params) : Obj := ⟨.none, none, (.func ⟨(so "prefix_operator"), (so "Writer.prefix_operator"), fA (nS (fB (nS B0 42)) 15), .stmts (fB (nS (fB (nS B0 42)) 15)), fS (nS (fB (nS B0 42)) 15), 0, [], .none, .none, .none, .none, none, .none, .none, 0⟩), (#[])⟩
noncomputable def ho502 (P : Params) : Obj := ⟨(.type "code"), none, (.fields (#[(.str (so "prefix_operator") 787), (.str (so "Writer.prefix_operator") 788), (.str (so "/claim/cut.py") 789), (.int 408 0), (.int 2 0), (.int 0 0), (.int 0 0), (.int 3 0), (.ref 449), (.bool true), (.int 181 0), (.ref 450), .none, (.ref 451), (.ref 452), (.ref 453), (.int 793 0), (.int 408 0), (.str (so "/claim/cut.py") 794)])), (#[])⟩
noncomputable def ho503 (P : Params) : Obj := ⟨(.type "function"), none, (.func ⟨(so "prefix_operator"), (so "Writer.prefix_operator"), fA (nS (fB (nS B0 42)) 15), .stmts (fB (nS (fB (nS B0 42)) 15)), fS (nS (fB (nS B0 42)) 15), 3, [], .none, .none, .none, (.str (so "clausemill.writer") 557), none, (.ref 454), .none, 0⟩), (#[])⟩
noncomputable def ho506 (P : Params) : Obj := ⟨(.type "tuple"), none, (.seq (#[(.str (so "self") 799), (.str (so "a") 800), (.str (so "text") 801)]) 0), (#[])⟩
noncomputable def ho508 (P : Params) : Obj := ⟨.none, none, (.func ⟨(so "infix_operator"), (so "Writer.infix_operator"), fA (nS (fB (nS B0 42)) 16), .stmts (fB (nS (fB (nS B0 42)) 16)), fS (nS (fB (nS B0 42)) 16), 0, [], .none, .none, .none, .none, none, .none, .none, 0⟩), (#[])⟩
noncomputable def ho509 (P : Params) : Obj := ⟨(.type "code"), none, (.fields (#[(.str (so "infix_operator") 796), (.str (so "Writer.infix_operator") 797), (.str (so "/claim/cut.py") 798), (.int 416 0), (.int 2 0), (.int 0 0), (.int 0 0), (.int 3 0), (.ref 456), (.bool true), (.int 181 0), (.ref 457), .none, (.ref 458), (.ref 459), (.ref 460), (.int 802 0), (.int 416 0), (.str (so "/claim/cut.py") 803)])), (#[])⟩
noncomputable def ho510 (P : Params) : Obj := ⟨(.type "function"), none, (.func ⟨(so "infix_operator"), (so "Writer.infix_operator"), fA (nS (fB (nS B0 42)) 16), .stmts (fB (nS (fB (nS B0 42)) 16)), fS (nS (fB (nS B0 42)) 16), 3, [], .none, .none, .none, (.str (so "clausemill.writer") 557), none, (.ref 461), .none, 0⟩), (#[])⟩
noncomputable def ho513 (P : Params) : Obj := ⟨(.type "tuple"), none, (.seq (#[(.str (so "self") 808), (.str (so "a") 809), (.str (so "text") 810)]) 0), (#[])⟩
noncomputable def ho515 (P : Params) : Obj := ⟨.none, none, (.func ⟨(so "postfix_operator"), (so "Writer.postfix_operator"), fA (nS (fB (nS B0 42)) 17), .stmts (fB (nS (fB (nS B0 42)) 17)), fS (nS (fB (nS B0 42)) 17), 0, [], .none, .none, .none, .none, none, .none, .none, 0⟩), (#[])⟩
noncomputable def ho516 (P : Params) : Obj := ⟨(.type "code"), none, (.fields (#[(.str (so "postfix_operator") 805), (.str (so "Writer.postfix_operator") 806), (.str (so "/claim/cut.py") 807), (.int 429 0), (.int 2 0), (.int 0 0), (.int 0 0), (.int 3 0), (.ref 463), (.bool true), (.int 181 0), (.ref 464), .none, (.ref 465), (.ref 466), (.ref 467), (.int 811 0), (.int 429 0), (.str (so "/claim/cut.py") 812)])), (#[])⟩
noncomputable def ho517 (P : Params) : Obj := ⟨(.type "function"), none, (.func ⟨(so "postfix_operator"), (so "Writer.postfix_operator"), fA (nS (fB (nS B0 42)) 17), .stmts (fB (nS (fB (nS B0 42)) 17)), fS (nS (fB (nS B0 42)) 17), 3, [], .none, .none, .none, (.str (so "clausemill.writer") 557), none, (.ref 468), .none, 0⟩), (#[])⟩
noncomputable def ho518 (P : Params) : Obj := ⟨(.type "tuple"), none, (.seq (#[(.str (so "ignore_ops") 814), (.str (so "last") 815), (.str (so "names") 816), (.str (so "numbervars") 817), (.str (so "operators") 818), (.str (so "out") 819), (.str (so "prefixed") 820), (.str (so "quoted") 821), (.str (so "symbols") 822), (.str (so "taken") 823), (.str (so "work") 824)]) 0), (#[])⟩
noncomputable def ho519 (P : Params) : Obj := ⟨(.type "dict"), none, (.dict (#[⟨(PyData.keyHash P (so "__module__")), (.str (so "__module__") 620), (.str (so "clausemill.writer") 557)⟩, ⟨(PyData.keyHash P (so "__firstlineno__")), (.str (so "__firstlineno__") 624), (.int (227 : Int) 623)⟩, ⟨(PyData.keyHash P (so "__init__")), (.str (so "__init__") 639), (.ref 349)⟩, ⟨(PyData.keyHash P (so "text")), (.str (so "text") 652), (.ref 357)⟩, ⟨(PyData.keyHash P (so "raw")), (.str (so "raw") 660), (.ref 364)⟩, ⟨(PyData.keyHash P (so "token")), (.str (so "token") 668), (.ref 371)⟩, ⟨(PyData.keyHash P (so "needs_space")), (.str (so "needs_space") 676), (.ref 378)⟩, ⟨(PyData.keyHash P (so "later")), (.str (so "later") 685), (.ref 385)⟩, ⟨(PyData.keyHash P (so "write")), (.str (so "write") 697), (.ref 392)⟩, ⟨(PyData.keyHash P (so "variable_text")), (.str (so "variable_text") 706), (.ref 399)⟩, ⟨(PyData.keyHash P (so "is_numbered")), (.str (so "is_numbered") 714), (.ref 406)⟩, ⟨(PyData.keyHash P (so "write_atom")), (.str (so "write_atom") 724), (.ref 413)⟩, ⟨(PyData.keyHash P (so "write_list")), (.str (so "write_list") 736), (.ref 420)⟩, ⟨(PyData.keyHash P (so "write_functional")), (.str (so "write_functional") 746), (.ref 427)⟩, ⟨(PyData.keyHash P (so "shape")), (.str (so "shape") 757), (.ref 434)⟩, ⟨(PyData.keyHash P (so "write_operation")), (.str (so "write_operation") 775), (.ref 441)⟩, ⟨(PyData.keyHash P (so "left_limit")), (.str (so "left_limit") 786), (.ref 448)⟩, ⟨(PyData.keyHash P (so "prefix_operator")), (.str (so "prefix_operator") 795), (.ref 455)⟩, ⟨(PyData.keyHash P (so "infix_operator")), (.str (so "infix_operator") 804), (.ref 462)⟩, ⟨(PyData.keyHash P (so "postfix_operator")), (.str (so "postfix_operator") 813), (.ref 469)⟩, ⟨(PyData.keyHash P (so "__static_attributes__")), (.str (so "__static_attributes__") 825), (.ref 470)⟩, ⟨(PyData.keyHash P (so "__dict__")), (.str (so "__dict__") 827), (.ref 473)⟩, ⟨(PyData.keyHash P (so "__weakref__")), (.str (so "__weakref__") 829), (.ref 474)⟩, ⟨(PyData.keyHash P (so "__doc__")), (.str (so "__doc__") 830), .none⟩]) 4), (#[])⟩
noncomputable def ho520 (P : Params) : Obj := ⟨(.type "type"), none, (.cls ⟨(so "Writer"), [(.type "object")], [(.ref 472), (.type "object")], 471, (so "Writer"), true, [], [], false, none, false⟩), (#[none, none, (some (.str (so "Writer") 613)), (some (.str (so "Writer") 621)), (some (.builtin "object.__new__")), (some (.bool true))])⟩
noncomputable def ho521 (P : Params) : Obj := ⟨(.type "getset_descriptor"), none, (.fields (#[(.str (so "__dict__") 826), (.ref 472), (.builtin "function.__dict__"), (.builtin "function.__dict__#set")])), (#[])⟩
noncomputable def ho522 (P : Params) : Obj := ⟨(.type "getset_descriptor"), none, (.fields (#[(.str (so "__weakref__") 828), (.ref 472), (.builtin "ExceptionGroup.__weakref__"), .none])), (#[])⟩
noncomputable def ho523 (P : Params) : Obj := ⟨(.type "super"), none, (.fields (#[(.ref 472), (.ref 472), (.ref 472)])), (#[])⟩
noncomputable def ho524 (P : Params) : Obj := ⟨(.type "builtin_function_or_method"), none, (.fields (#[(.builtin "object.__init_subclass__"), (.ref 472)])), (#[])⟩
noncomputable def ho528 (P : Params) : Obj := ⟨(.type "dict"), none, (.dict (#[⟨(PyData.keyHash P (so "__module__")), (.str (so "__module__") 620), (.str (so "clausemill.writer") 557)⟩, ⟨(PyData.keyHash P (so "__qualname__")), (.str (so "__qualname__") 622), (.str (so "Writer") 621)⟩, ⟨(PyData.keyHash P (so "__firstlineno__")), (.str (so "__firstlineno__") 624), (.int (227 : Int) 623)⟩, ⟨(PyData.keyHash P (so "__init__")), (.str (so "__init__") 639), (.ref 349)⟩, ⟨(PyData.keyHash P (so "text")), (.str (so "text") 652), (.ref 357)⟩, ⟨(PyData.keyHash P (so "raw")), (.str (so "raw") 660), (.ref 364)⟩, ⟨(PyData.keyHash P (so "token")), (.str (so "token") 668), (.ref 371)⟩, ⟨(PyData.keyHash P (so "needs_space")), (.str (so "needs_space") 676), (.ref 378)⟩, ⟨(PyData.keyHash P (so "later")), (.str (so "later") 685), (.ref 385)⟩, ⟨(PyData.keyHash P (so "write")), (.str (so "write") 697), (.ref 392)⟩, ⟨(PyData.keyHash P (so "variable_text")), (.str (so "variable_text") 706), (.ref 399)⟩, ⟨(PyData.keyHash P (so "is_numbered")), (.str (so "is_numbered") 714), (.ref 406)⟩, ⟨(PyData.keyHash P (so "write_atom")), (.str (so "write_atom") 724), (.ref 413)⟩]) 13), (#[])⟩
noncomputable def ho530 (P : Params) : Obj := ⟨.none, none, (.fields (#[(.int 229 0), (.int 4 0), (.ref 348), (.int 246 0), (.int 4 0), (.ref 356), (.int 263 0), (.int 4 0), (.ref 363), (.int 269 0), (.int 4 0), (.ref 370), (.int 275 0), (.int 4 0), (.ref 377), (.int 286 0), (.int 4 0), (.ref 384), (.int 290 0), (.int 4 0), (.ref 391), (.int 312 0), (.int 4 0), (.ref 398), (.int 320 0), (.int 4 0), (.ref 405), (.int 325 0), (.int 4 0), (.ref 412)])), (#[])⟩
noncomputable def ho608 (P : Params) : Obj := ⟨(.type "dict"), none, (.dict (#[⟨(PyData.keyHash P (so "__name__")), (.str (so "__name__") 165), (.str (so "law_sa0155_03") 833)⟩, ⟨(PyData.keyHash P (so "__doc__")), (.str (so "__doc__") 166), .none⟩, ⟨(PyData.keyHash P (so "__package__")), (.str (so "__package__") 167), .none⟩, ⟨(PyData.keyHash P (so "__loader__")), (.str (so "__loader__") 168), (.builtin "__main__.__loader__#opaque")⟩, ⟨(PyData.keyHash P (so "__spec__")), (.str (so "__spec__") 169), .none⟩, ⟨(PyData.keyHash P (so "__annotations__")), (.str (so "__annotations__") 170), (.ref 6)⟩, ⟨(PyData.keyHash P (so "__builtins__")), (.str (so "__builtins__") 171), (.ref 4)⟩, ⟨(PyData.keyHash P (so "__file__")), (.str (so "__file__") 173), (.str (so "/claim/cut.py") 172)⟩, ⟨(PyData.keyHash P (so "__cached__")), (.str (so "__cached__") 174), .none⟩, ⟨(PyData.keyHash P (so "_wall")), (.str (so "_wall") 193), (.ref 21)⟩, ⟨(PyData.keyHash P (so "A_NIL")), (.str (so "A_NIL") 197), (.int (0 : Int) 196)⟩, ⟨(PyData.keyHash P (so "A_MINUS")), (.str (so "A_MINUS") 199), (.int (3 : Int) 198)⟩, ⟨(PyData.keyHash P (so "A_COMMA")), (.str (so "A_COMMA") 201), (.int (7 : Int) 200)⟩, ⟨(PyData.keyHash P (so "A_BAR")), (.str (so "A_BAR") 203), (.int (8 : Int) 202)⟩, ⟨(PyData.keyHash P (so "F_DOT")), (.str (so "F_DOT") 205), (.int (0 : Int) 204)⟩, ⟨(PyData.keyHash P (so "F_CURLY")), (.str (so "F_CURLY") 207), (.int (9 : Int) 206)⟩, ⟨(PyData.keyHash P (so "F_VARNAME")), (.str (so "F_VARNAME") 209), (.int (17 : Int) 208)⟩, ⟨(PyData.keyHash P (so "fixed_atoms")), (.str (so "fixed_atoms") 215), (.ref 28)⟩, ⟨(PyData.keyHash P (so "fixed_functors")), (.str (so "fixed_functors") 221), (.ref 35)⟩, ⟨(PyData.keyHash P (so "Symbols")), (.str (so "Symbols") 340), (.ref 122)⟩, ⟨(PyData.keyHash P (so "list_items")), (.str (so "list_items") 350), (.ref 133)⟩, ⟨(PyData.keyHash P (so "is_digit")), (.str (so "is_digit") 359), (.ref 140)⟩, ⟨(PyData.keyHash P (so "is_small")), (.str (so "is_small") 366), (.ref 147)⟩, ⟨(PyData.keyHash P (so "is_capital")), (.str (so "is_capital") 373), (.ref 154)⟩, ⟨(PyData.keyHash P (so "is_alnum")), (.str (so "is_alnum") 380), (.ref 161)⟩, ⟨(PyData.keyHash P (so "is_symbol")), (.str (so "is_symbol") 387), (.ref 168)⟩, ⟨(PyData.keyHash P (so "number_text")), (.str (so "number_text") 397), (.ref 175)⟩, ⟨(PyData.keyHash P (so "is_alnum_name")), (.str (so "is_alnum_name") 405), (.ref 182)⟩, ⟨(PyData.keyHash P (so "is_symbol_name")), (.str (so "is_symbol_name") 413), (.ref 189)⟩, ⟨(PyData.keyHash P (so "is_plain_name")), (.str (so "is_plain_name") 420), (.ref 196)⟩, ⟨(PyData.keyHash P (so "COMMA_PRIORITY")), (.str (so "COMMA_PRIORITY") 424), (.int (1000 : Int) 423)⟩, ⟨(PyData.keyHash P (so "PREFIX_TYPES")), (.str (so "PREFIX_TYPES") 427), (.ref 197)⟩, ⟨(PyData.keyHash P (so "INFIX_TYPES")), (.str (so "INFIX_TYPES") 431), (.ref 198)⟩, ⟨(PyData.keyHash P (so "POSTFIX_TYPES")), (.str (so "POSTFIX_TYPES") 434), (.ref 199)⟩, ⟨(PyData.keyHash P (so "standard_rows")), (.str (so "standard_rows") 440), (.ref 206)⟩, ⟨(PyData.keyHash P (so "fixity")), (.str (so "fixity") 447), (.ref 213)⟩, ⟨(PyData.keyHash P (so "bounds")), (.str (so "bounds") 456), (.ref 220)⟩, ⟨(PyData.keyHash P (so "OperatorTable")), (.str (so "OperatorTable") 556), (.ref 287)⟩, ⟨(PyData.keyHash P (so "WHOLE_PRIORITY")), (.str (so "WHOLE_PRIORITY") 560), (.int (1201 : Int) 559)⟩, ⟨(PyData.keyHash P (so "ARGUMENT_PRIORITY")), (.str (so "ARGUMENT_PRIORITY") 562), (.int (999 : Int) 561)⟩, ⟨(PyData.keyHash P (so "escaped")), (.str (so "escaped") 570), (.ref 298)⟩, ⟨(PyData.keyHash P (so "quoted_text")), (.str (so "quoted_text") 579), (.ref 305)⟩, ⟨(PyData.keyHash P (so "atom_text")), (.str (so "atom_text") 589), (.ref 313)⟩, ⟨(PyData.keyHash P (so "numbered_text")), (.str (so "numbered_text") 597), (.ref 320)⟩, ⟨(PyData.keyHash P (so "is_word")), (.str (so "is_word") 605), (.ref 327)⟩, ⟨(PyData.keyHash P (so "is_tight")), (.str (so "is_tight") 612), (.ref 334)⟩, ⟨(PyData.keyHash P (so "Writer")), (.str (so "Writer") 832), (.ref 472)⟩, ⟨(PyData.keyHash P (so "_law_row")), (.str (so "_law_row") 845), (.ref 483)⟩, ⟨(PyData.keyHash P (so "_law_next")), (.str (so "_law_next") 853), (.ref 490)⟩, ⟨(PyData.keyHash P (so "_law_held")), (.str (so "_law_held") 861), (.ref 497)⟩, ⟨(PyData.keyHash P (so "_law_after")), (.str (so "_law_after") 869), (.ref 504)⟩, ⟨(PyData.keyHash P (so "_law_ahead")), (.str (so "_law_ahead") 877), (.ref 511)⟩, ⟨(PyData.keyHash P (so "law")), (.str (so "law") 908), (.ref 518)⟩]) 53), (#[])⟩
noncomputable def ho609 (P : Params) : Obj := ⟨.none, none, (.fields (#[(.int 1 0), (.int 0 0), (.ref 20), (.int 12 0), (.int 0 0), (.ref 27), (.int 14 0), (.int 0 0), (.ref 34), (.int 16 0), (.int 0 0), (.ref 41), (.int 71 0), (.int 0 0), (.ref 132), (.int 78 0), (.int 0 0), (.ref 139), (.int 80 0), (.int 0 0), (.ref 146), (.int 82 0), (.int 0 0), (.ref 153), (.int 84 0), (.int 0 0), (.ref 160), (.int 86 0), (.int 0 0), (.ref 167), (.int 88 0), (.int 0 0), (.ref 174), (.int 98 0), (.int 0 0), (.ref 181), (.int 105 0), (.int 0 0), (.ref 188), (.int 112 0), (.int 0 0), (.ref 195), (.int 123 0), (.int 0 0), (.ref 205), (.int 125 0), (.int 0 0), (.ref 212), (.int 133 0), (.int 0 0), (.ref 219), (.int 148 0), (.int 0 0), (.ref 226), (.int 197 0), (.int 0 0), (.ref 297), (.int 206 0), (.int 0 0), (.ref 304), (.int 212 0), (.int 0 0), (.ref 312), (.int 217 0), (.int 0 0), (.ref 319), (.int 222 0), (.int 0 0), (.ref 326), (.int 225 0), (.int 0 0), (.ref 333), (.int 227 0), (.int 0 0), (.ref 340), (.int 437 0), (.int 0 0), (.ref 482), (.int 448 0), (.int 0 0), (.ref 489), (.int 450 0), (.int 0 0), (.ref 496), (.int 452 0), (.int 0 0), (.ref 503), (.int 456 0), (.int 0 0), (.ref 510), (.int 460 0), (.int 0 0), (.ref 517)])), (#[])⟩
noncomputable def ho612 (P : Params) : Obj := ⟨(.type "tuple"), none, (.seq (#[(.str (so "script") 838), (.str (so "row") 839), (.str (so "cell") 840), (.str (so "rest") 841), (.str (so "turn") 842)]) 0), (#[])⟩
noncomputable def ho614 (P : Params) : Obj := ⟨.none, none, (.func ⟨(so "_law_row"), (so "_law_row"), fA (nS B0 44), .stmts (fB (nS B0 44)), fS (nS B0 44), 0, [], .none, .none, .none, .none, none, .none, .none, 0⟩), (#[])⟩
noncomputable def ho615 (P : Params) : Obj := ⟨(.type "code"), none, (.fields (#[(.str (so "_law_row") 835), (.str (so "_law_row") 836), (.str (so "/claim/cut.py") 837), (.int 437 0), (.int 1 0), (.int 0 0), (.int 0 0), (.int 3 0), (.ref 477), (.bool true), (.int 181 0), (.ref 478), .none, (.ref 479), (.ref 480), (.ref 481), (.int 843 0), (.int 437 0), (.str (so "/claim/cut.py") 844)])), (#[])⟩
noncomputable def ho616 (P : Params) : Obj := ⟨(.type "function"), none, (.func ⟨(so "_law_row"), (so "_law_row"), fA (nS B0 44), .stmts (fB (nS B0 44)), fS (nS B0 44), 3, [], .none, .none, .none, (.str (so "law_sa0155_03") 833), none, (.ref 482), .none, 0⟩), (#[])⟩
noncomputable def ho619 (P : Params) : Obj := ⟨(.type "tuple"), none, (.seq (#[(.str (so "row") 849), (.str (so "many") 850)]) 0), (#[])⟩
noncomputable def ho621 (P : Params) : Obj := ⟨.none, none, (.func ⟨(so "_law_next"), (so "_law_next"), fA (nS B0 45), .stmts (fB (nS B0 45)), fS (nS B0 45), 0, [], .none, .none, .none, .none, none, .none, .none, 0⟩), (#[])⟩
noncomputable def ho622 (P : Params) : Obj := ⟨(.type "code"), none, (.fields (#[(.str (so "_law_next") 846), (.str (so "_law_next") 847), (.str (so "/claim/cut.py") 848), (.int 448 0), (.int 2 0), (.int 0 0), (.int 0 0), (.int 3 0), (.ref 484), (.bool true), (.int 181 0), (.ref 485), .none, (.ref 486), (.ref 487), (.ref 488), (.int 851 0), (.int 448 0), (.str (so "/claim/cut.py") 852)])), (#[])⟩
noncomputable def ho623 (P : Params) : Obj := ⟨(.type "function"), none, (.func ⟨(so "_law_next"), (so "_law_next"), fA (nS B0 45), .stmts (fB (nS B0 45)), fS (nS B0 45), 3, [], .none, .none, .none, (.str (so "law_sa0155_03") 833), none, (.ref 489), .none, 0⟩), (#[])⟩
noncomputable def ho626 (P : Params) : Obj := ⟨(.type "tuple"), none, (.seq (#[(.str (so "line") 857), (.str (so "needed") 858)]) 0), (#[])⟩
noncomputable def ho628 (P : Params) : Obj := ⟨.none, none, (.func ⟨(so "_law_held"), (so "_law_held"), fA (nS B0 46), .stmts (fB (nS B0 46)), fS (nS B0 46), 0, [], .none, .none, .none, .none, none, .none, .none, 0⟩), (#[])⟩
noncomputable def ho629 (P : Params) : Obj := ⟨(.type "code"), none, (.fields (#[(.str (so "_law_held") 854), (.str (so "_law_held") 855), (.str (so "/claim/cut.py") 856), (.int 450 0), (.int 2 0), (.int 0 0), (.int 0 0), (.int 3 0), (.ref 491), (.bool true), (.int 181 0), (.ref 492), .none, (.ref 493), (.ref 494), (.ref 495), (.int 859 0), (.int 450 0), (.str (so "/claim/cut.py") 860)])), (#[])⟩
noncomputable def ho630 (P : Params) : Obj := ⟨(.type "function"), none, (.func ⟨(so "_law_held"), (so "_law_held"), fA (nS B0 46), .stmts (fB (nS B0 46)), fS (nS B0 46), 3, [], .none, .none, .none, (.str (so "law_sa0155_03") 833), none, (.ref 496), .none, 0⟩), (#[])⟩
noncomputable def ho633 (P : Params) : Obj := ⟨(.type "tuple"), none, (.seq (#[(.str (so "word") 865), (.str (so "line") 866)]) 0), (#[])⟩
noncomputable def ho635 (P : Params) : Obj := ⟨.none, none, (.func ⟨(so "_law_after"), (so "_law_after"), fA (nS B0 47), .stmts (fB (nS B0 47)), fS (nS B0 47), 0, [], .none, .none, .none, .none, none, .none, .none, 0⟩), (#[])⟩
noncomputable def ho636 (P : Params) : Obj := ⟨(.type "code"), none, (.fields (#[(.str (so "_law_after") 862), (.str (so "_law_after") 863), (.str (so "/claim/cut.py") 864), (.int 452 0), (.int 2 0), (.int 0 0), (.int 0 0), (.int 3 0), (.ref 498), (.bool true), (.int 181 0), (.ref 499), .none, (.ref 500), (.ref 501), (.ref 502), (.int 867 0), (.int 452 0), (.str (so "/claim/cut.py") 868)])), (#[])⟩
noncomputable def ho637 (P : Params) : Obj := ⟨(.type "function"), none, (.func ⟨(so "_law_after"), (so "_law_after"), fA (nS B0 47), .stmts (fB (nS B0 47)), fS (nS B0 47), 3, [], .none, .none, .none, (.str (so "law_sa0155_03") 833), none, (.ref 503), .none, 0⟩), (#[])⟩
noncomputable def ho640 (P : Params) : Obj := ⟨(.type "tuple"), none, (.seq (#[(.str (so "line") 873), (.str (so "word") 874)]) 0), (#[])⟩
noncomputable def ho642 (P : Params) : Obj := ⟨.none, none, (.func ⟨(so "_law_ahead"), (so "_law_ahead"), fA (nS B0 48), .stmts (fB (nS B0 48)), fS (nS B0 48), 0, [], .none, .none, .none, .none, none, .none, .none, 0⟩), (#[])⟩
noncomputable def ho643 (P : Params) : Obj := ⟨(.type "code"), none, (.fields (#[(.str (so "_law_ahead") 870), (.str (so "_law_ahead") 871), (.str (so "/claim/cut.py") 872), (.int 456 0), (.int 2 0), (.int 0 0), (.int 0 0), (.int 3 0), (.ref 505), (.bool true), (.int 181 0), (.ref 506), .none, (.ref 507), (.ref 508), (.ref 509), (.int 875 0), (.int 456 0), (.str (so "/claim/cut.py") 876)])), (#[])⟩
noncomputable def ho644 (P : Params) : Obj := ⟨(.type "function"), none, (.func ⟨(so "_law_ahead"), (so "_law_ahead"), fA (nS B0 48), .stmts (fB (nS B0 48)), fS (nS B0 48), 3, [], .none, .none, .none, (.str (so "law_sa0155_03") 833), none, (.ref 510), .none, 0⟩), (#[])⟩
noncomputable def ho647 (P : Params) : Obj := ⟨(.type "tuple"), none, (.seq (#[(.str (so "script") 881), (.str (so "row") 882), (.str (so "names") 883), (.str (so "table") 884), (.str (so "signs") 885), (.str (so "word") 886), (.str (so "kinds") 887), (.str (so "kind") 888), (.str (so "height") 889), (.str (so "most") 890), (.str (so "leaf") 891), (.str (so "term") 892), (.str (so "line") 893), (.str (so "tall") 894), (.str (so "reach") 895), (.str (so "listed") 896), (.str (so "due") 897), (.str (so "turn") 898), (.str (so "way") 899), (.str (so "left") 900), (.str (so "right") 901), (.str (so "on_left") 902), (.str (so "on_right") 903), (.str (so "inner") 904), (.str (so "scribe") 905)]) 0), (#[])⟩
noncomputable def ho649 (P : Params) : Obj := ⟨.none, none, (.func ⟨(so "law"), (so "law"), fA (nS B0 49), .stmts (fB (nS B0 49)), fS (nS B0 49), 0, [], .none, .none, .none, .none, none, .none, .none, 0⟩), (#[])⟩
noncomputable def ho650 (P : Params) : Obj := ⟨(.type "code"), none, (.fields (#[(.str (so "law") 878), (.str (so "law") 879), (.str (so "/claim/cut.py") 880), (.int 460 0), (.int 1 0), (.int 0 0), (.int 0 0), (.int 3 0), (.ref 512), (.bool true), (.int 181 0), (.ref 513), .none, (.ref 514), (.ref 515), (.ref 516), (.int 906 0), (.int 460 0), (.str (so "/claim/cut.py") 907)])), (#[])⟩
noncomputable def ho651 (P : Params) : Obj := ⟨(.type "function"), none, (.func ⟨(so "law"), (so "law"), fA (nS B0 49), .stmts (fB (nS B0 49)), fS (nS B0 49), 3, [], .none, .none, .none, (.str (so "law_sa0155_03") 833), none, (.ref 517), .none, 0⟩), (#[])⟩
noncomputable def he41 : Env := ⟨(Module.scope (Program.main PR)), mainNs, mainNs, [], PySem.Str.empty, none, (.ref 13), (some (14 : Addr)), (0 : Addr)⟩
noncomputable def hh46 (P : Params) : Heap := ⟨⟨[(boot_o_0 P), (boot_o_1 P), (boot_o_2 P), (boot_o_3 P), (boot_o_4 P), (boot_o_5 P), (boot_o_6 P), (boot_o_7 P), (boot_o_8 P), (boot_o_9 P), (boot_o_10 P), (ho43 P), (ho44 P), (ho45 P), (ho46 P)]⟩, ⟨[], [], [], 0, [], [], false, (#[]), [], 0, false, false, false, (0 : Int), [(2000 : Int), (10 : Int), (10 : Int)], false, 0, true, [], [], 0, false⟩⟩
noncomputable def ht47 (P : Params) : BT := (.node (boot_o_0 P) (.node (boot_o_1 P) (.node (boot_o_3 P) (.node (boot_o_7 P) .nil .nil) (.node (ho43 P) .nil .nil)) (.node (boot_o_5 P) (.node (boot_o_9 P) .nil .nil) (.node (ho45 P) .nil .nil))) (.node (boot_o_2 P) (.node (boot_o_4 P) (.node (boot_o_8 P) .nil .nil) (.node (ho44 P) .nil .nil)) (.node (boot_o_6 P) (.node (boot_o_10 P) .nil .nil) (.node (ho46 P) .nil .nil))))
noncomputable def ht71 (P : Params) : BT := (.node (boot_o_0 P) (.node (boot_o_1 P) (.node (ho49 P) (.node (boot_o_7 P) (.node (ho43 P) (.node (ho43 P) .nil .nil) .nil) (.node (ho44 P) .nil .nil)) (.node (ho43 P) (.node (ho55 P) (.node (ho71 P) .nil .nil) .nil) (.node (ho63 P) .nil .nil))) (.node (boot_o_5 P) (.node (boot_o_9 P) (.node (ho53 P) (.node (ho69 P) .nil .nil) .nil) (.node (ho43 P) .nil .nil)) (.node (ho45 P) (.node (ho57 P) .nil .nil) (.node (ho43 P) .nil .nil)))) (.node (boot_o_2 P) (.node (boot_o_4 P) (.node (boot_o_8 P) (.node (ho44 P) (.node (ho43 P) .nil .nil) .nil) (.node (ho43 P) .nil .nil)) (.node (ho50 P) (.node (ho56 P) .nil .nil) (.node (ho64 P) .nil .nil))) (.node (boot_o_6 P) (.node (boot_o_10 P) (.node (ho43 P) (.node (ho70 P) .nil .nil) .nil) (.node (ho62 P) .nil .nil)) (.node (ho46 P) (.node (ho43 P) .nil .nil) (.node (ho44 P) .nil .nil)))))
noncomputable def ht164 (P : Params) : BT := (.node (boot_o_0 P) (.node (boot_o_1 P) (.node (ho72 P) (.node (boot_o_7 P) (.node (ho43 P) (.node (ho43 P) (.node (ho101 P) .nil .nil) (.node (ho43 P) .nil .nil)) (.node (ho85 P) (.node (ho44 P) .nil .nil) (.node (ho149 P) .nil .nil))) (.node (ho44 P) (.node (ho43 P) (.node (ho43 P) .nil .nil) (.node (ho141 P) .nil .nil)) (.node (ho93 P) (.node (ho125 P) .nil .nil) (.node (ho157 P) .nil .nil)))) (.node (ho43 P) (.node (ho55 P) (.node (ho71 P) (.node (ho43 P) .nil .nil) (.node (ho43 P) .nil .nil)) (.node (ho44 P) (.node (ho121 P) .nil .nil) (.node (ho153 P) .nil .nil))) (.node (ho63 P) (.node (ho43 P) (.node (ho113 P) .nil .nil) (.node (ho44 P) .nil .nil)) (.node (ho97 P) (.node (ho129 P) .nil .nil) (.node (ho161 P) .nil .nil))))) (.node (boot_o_5 P) (.node (boot_o_9 P) (.node (ho53 P) (.node (ho69 P) (.node (ho44 P) .nil .nil) (.node (ho135 P) .nil .nil)) (.node (ho87 P) (.node (ho43 P) .nil .nil) (.node (ho43 P) .nil .nil))) (.node (ho43 P) (.node (ho79 P) (.node (ho111 P) .nil .nil) (.node (ho143 P) .nil .nil)) (.node (ho43 P) (.node (ho127 P) .nil .nil) (.node (ho159 P) .nil .nil)))) (.node (ho45 P) (.node (ho57 P) (.node (ho75 P) (.node (ho107 P) .nil .nil) (.node (ho139 P) .nil .nil)) (.node (ho43 P) (.node (ho43 P) .nil .nil) (.node (ho155 P) .nil .nil))) (.node (ho43 P) (.node (ho83 P) (.node (ho115 P) .nil .nil) (.node (ho43 P) .nil .nil)) (.node (ho99 P) (.node (ho44 P) .nil .nil) (.node (ho163 P) .nil .nil)))))) (.node (boot_o_2 P) (.node (boot_o_4 P) (.node (boot_o_8 P) (.node (ho44 P) (.node (ho43 P) (.node (ho43 P) .nil .nil) (.node (ho134 P) .nil .nil)) (.node (ho86 P) (.node (ho118 P) .nil .nil) (.node (ho150 P) .nil .nil))) (.node (ho43 P) (.node (ho78 P) (.node (ho44 P) .nil .nil) (.node (ho142 P) .nil .nil)) (.node (ho94 P) (.node (ho43 P) .nil .nil) (.node (ho158 P) .nil .nil)))) (.node (ho73 P) (.node (ho56 P) (.node (ho43 P) (.node (ho106 P) .nil .nil) (.node (ho44 P) .nil .nil)) (.node (ho90 P) (.node (ho122 P) .nil .nil) (.node (ho43 P) .nil .nil))) (.node (ho64 P) (.node (ho44 P) (.node (ho114 P) .nil .nil) (.node (ho146 P) .nil .nil)) (.node (ho43 P) (.node (ho43 P) .nil .nil) (.node (ho162 P) .nil .nil))))) (.node (boot_o_6 P) (.node (boot_o_10 P) (.node (ho43 P) (.node (ho70 P) (.node (ho104 P) .nil .nil) (.node (ho136 P) .nil .nil)) (.node (ho43 P) (.node (ho120 P) .nil .nil) (.node (ho44 P) .nil .nil))) (.node (ho62 P) (.node (ho80 P) (.node (ho43 P) .nil .nil) (.node (ho43 P) .nil .nil)) (.node (ho44 P) (.node (ho128 P) .nil .nil) (.node (ho160 P) .nil .nil)))) (.node (ho46 P) (.node (ho43 P) (.node (ho76 P) (.node (ho108 P) .nil .nil) (.node (ho43 P) .nil .nil)) (.node (ho92 P) (.node (ho44 P) .nil .nil) (.node (ho156 P) .nil .nil))) (.node (ho44 P) (.node (ho43 P) (.node (ho43 P) .nil .nil) (.node (ho148 P) .nil .nil)) (.node (ho100 P) (.node (ho132 P) .nil .nil) (.node (ho164 P) .nil .nil)))))))
noncomputable def ht246 (P : Params) : BT := (.node (boot_o_0 P) (.node (boot_o_1 P) (.node (ho165 P) (.node (boot_o_7 P) (.node (ho43 P) (.node (ho43 P) (.node (ho101 P) (.node (ho43 P) .nil .nil) (.node (ho44 P) .nil .nil)) (.node (ho43 P) (.node (ho199 P) .nil .nil) .nil)) (.node (ho85 P) (.node (ho44 P) (.node (ho183 P) .nil .nil) .nil) (.node (ho149 P) (.node (ho215 P) .nil .nil) .nil))) (.node (ho44 P) (.node (ho43 P) (.node (ho43 P) (.node (ho44 P) .nil .nil) (.node (ho239 P) .nil .nil)) (.node (ho141 P) (.node (ho207 P) .nil .nil) .nil)) (.node (ho93 P) (.node (ho125 P) (.node (ho43 P) .nil .nil) .nil) (.node (ho157 P) (.node (ho43 P) .nil .nil) .nil)))) (.node (ho43 P) (.node (ho55 P) (.node (ho71 P) (.node (ho43 P) (.node (ho171 P) .nil .nil) (.node (ho235 P) .nil .nil)) (.node (ho43 P) (.node (ho44 P) .nil .nil) .nil)) (.node (ho44 P) (.node (ho121 P) (.node (ho187 P) .nil .nil) .nil) (.node (ho153 P) (.node (ho43 P) .nil .nil) .nil))) (.node (ho63 P) (.node (ho43 P) (.node (ho113 P) (.node (ho179 P) .nil .nil) (.node (ho43 P) .nil .nil)) (.node (ho44 P) (.node (ho211 P) .nil .nil) .nil)) (.node (ho97 P) (.node (ho129 P) (.node (ho43 P) .nil .nil) .nil) (.node (ho161 P) (.node (ho227 P) .nil .nil) .nil))))) (.node (boot_o_5 P) (.node (boot_o_9 P) (.node (ho53 P) (.node (ho69 P) (.node (ho44 P) (.node (ho169 P) .nil .nil) (.node (ho43 P) .nil .nil)) (.node (ho135 P) (.node (ho201 P) .nil .nil) .nil)) (.node (ho87 P) (.node (ho43 P) (.node (ho185 P) .nil .nil) .nil) (.node (ho43 P) (.node (ho44 P) .nil .nil) .nil))) (.node (ho43 P) (.node (ho79 P) (.node (ho111 P) (.node (ho43 P) .nil .nil) (.node (ho44 P) .nil .nil)) (.node (ho143 P) (.node (ho43 P) .nil .nil) .nil)) (.node (ho43 P) (.node (ho127 P) (.node (ho193 P) .nil .nil) .nil) (.node (ho159 P) (.node (ho225 P) .nil .nil) .nil)))) (.node (ho45 P) (.node (ho57 P) (.node (ho75 P) (.node (ho107 P) (.node (ho173 P) .nil .nil) (.node (ho237 P) .nil .nil)) (.node (ho139 P) (.node (ho43 P) .nil .nil) .nil)) (.node (ho43 P) (.node (ho43 P) (.node (ho44 P) .nil .nil) .nil) (.node (ho155 P) (.node (ho221 P) .nil .nil) .nil))) (.node (ho43 P) (.node (ho83 P) (.node (ho115 P) (.node (ho43 P) .nil .nil) (.node (ho245 P) .nil .nil)) (.node (ho43 P) (.node (ho213 P) .nil .nil) .nil)) (.node (ho99 P) (.node (ho44 P) (.node (ho197 P) .nil .nil) .nil) (.node (ho163 P) (.node (ho229 P) .nil .nil) .nil)))))) (.node (boot_o_2 P) (.node (boot_o_4 P) (.node (boot_o_8 P) (.node (ho44 P) (.node (ho43 P) (.node (ho43 P) (.node (ho44 P) .nil .nil) (.node (ho232 P) .nil .nil)) (.node (ho134 P) (.node (ho200 P) .nil .nil) .nil)) (.node (ho86 P) (.node (ho118 P) (.node (ho43 P) .nil .nil) .nil) (.node (ho150 P) (.node (ho43 P) .nil .nil) .nil))) (.node (ho43 P) (.node (ho78 P) (.node (ho44 P) (.node (ho176 P) .nil .nil) (.node (ho43 P) .nil .nil)) (.node (ho142 P) (.node (ho208 P) .nil .nil) .nil)) (.node (ho94 P) (.node (ho43 P) (.node (ho192 P) .nil .nil) .nil) (.node (ho158 P) (.node (ho44 P) .nil .nil) .nil)))) (.node (ho166 P) (.node (ho56 P) (.node (ho43 P) (.node (ho106 P) (.node (ho172 P) .nil .nil) (.node (ho236 P) .nil .nil)) (.node (ho44 P) (.node (ho204 P) .nil .nil) .nil)) (.node (ho90 P) (.node (ho122 P) (.node (ho43 P) .nil .nil) .nil) (.node (ho43 P) (.node (ho220 P) .nil .nil) .nil))) (.node (ho64 P) (.node (ho44 P) (.node (ho114 P) (.node (ho180 P) .nil .nil) (.node (ho244 P) .nil .nil)) (.node (ho146 P) (.node (ho43 P) .nil .nil) .nil)) (.node (ho43 P) (.node (ho43 P) (.node (ho44 P) .nil .nil) .nil) (.node (ho162 P) (.node (ho228 P) .nil .nil) .nil))))) (.node (boot_o_6 P) (.node (boot_o_10 P) (.node (ho43 P) (.node (ho70 P) (.node (ho104 P) (.node (ho43 P) .nil .nil) (.node (ho234 P) .nil .nil)) (.node (ho136 P) (.node (ho43 P) .nil .nil) .nil)) (.node (ho43 P) (.node (ho120 P) (.node (ho186 P) .nil .nil) .nil) (.node (ho44 P) (.node (ho218 P) .nil .nil) .nil))) (.node (ho62 P) (.node (ho80 P) (.node (ho43 P) (.node (ho178 P) .nil .nil) (.node (ho43 P) .nil .nil)) (.node (ho43 P) (.node (ho44 P) .nil .nil) .nil)) (.node (ho44 P) (.node (ho128 P) (.node (ho194 P) .nil .nil) .nil) (.node (ho160 P) (.node (ho43 P) .nil .nil) .nil)))) (.node (ho46 P) (.node (ho43 P) (.node (ho76 P) (.node (ho108 P) (.node (ho43 P) .nil .nil) (.node (ho238 P) .nil .nil)) (.node (ho43 P) (.node (ho206 P) .nil .nil) .nil)) (.node (ho92 P) (.node (ho44 P) (.node (ho190 P) .nil .nil) .nil) (.node (ho156 P) (.node (ho222 P) .nil .nil) .nil))) (.node (ho44 P) (.node (ho43 P) (.node (ho43 P) (.node (ho44 P) .nil .nil) (.node (ho246 P) .nil .nil)) (.node (ho148 P) (.node (ho214 P) .nil .nil) .nil)) (.node (ho100 P) (.node (ho132 P) (.node (ho43 P) .nil .nil) .nil) (.node (ho164 P) (.node (ho43 P) .nil .nil) .nil)))))))
noncomputable def ht262 (P : Params) : BT := (.node (boot_o_0 P) (.node (boot_o_1 P) (.node (ho247 P) (.node (boot_o_7 P) (.node (ho43 P) (.node (ho43 P) (.node (ho101 P) (.node (ho43 P) .nil .nil) (.node (ho44 P) .nil .nil)) (.node (ho43 P) (.node (ho199 P) .nil .nil) .nil)) (.node (ho85 P) (.node (ho44 P) (.node (ho183 P) .nil .nil) (.node (ho43 P) .nil .nil)) (.node (ho149 P) (.node (ho215 P) .nil .nil) .nil))) (.node (ho44 P) (.node (ho43 P) (.node (ho43 P) (.node (ho44 P) .nil .nil) (.node (ho239 P) .nil .nil)) (.node (ho141 P) (.node (ho207 P) .nil .nil) .nil)) (.node (ho93 P) (.node (ho125 P) (.node (ho43 P) .nil .nil) (.node (ho44 P) .nil .nil)) (.node (ho157 P) (.node (ho43 P) .nil .nil) .nil)))) (.node (ho43 P) (.node (ho55 P) (.node (ho71 P) (.node (ho43 P) (.node (ho171 P) .nil .nil) (.node (ho235 P) .nil .nil)) (.node (ho43 P) (.node (ho44 P) .nil .nil) .nil)) (.node (ho44 P) (.node (ho121 P) (.node (ho187 P) .nil .nil) (.node (ho253 P) .nil .nil)) (.node (ho153 P) (.node (ho43 P) .nil .nil) .nil))) (.node (ho63 P) (.node (ho43 P) (.node (ho113 P) (.node (ho179 P) .nil .nil) (.node (ho43 P) .nil .nil)) (.node (ho44 P) (.node (ho211 P) .nil .nil) .nil)) (.node (ho97 P) (.node (ho129 P) (.node (ho43 P) .nil .nil) (.node (ho261 P) .nil .nil)) (.node (ho161 P) (.node (ho227 P) .nil .nil) .nil))))) (.node (boot_o_5 P) (.node (boot_o_9 P) (.node (ho53 P) (.node (ho69 P) (.node (ho44 P) (.node (ho169 P) .nil .nil) (.node (ho43 P) .nil .nil)) (.node (ho135 P) (.node (ho201 P) .nil .nil) .nil)) (.node (ho87 P) (.node (ho43 P) (.node (ho185 P) .nil .nil) (.node (ho251 P) .nil .nil)) (.node (ho43 P) (.node (ho44 P) .nil .nil) .nil))) (.node (ho43 P) (.node (ho79 P) (.node (ho111 P) (.node (ho43 P) .nil .nil) (.node (ho44 P) .nil .nil)) (.node (ho143 P) (.node (ho43 P) .nil .nil) .nil)) (.node (ho43 P) (.node (ho127 P) (.node (ho193 P) .nil .nil) (.node (ho43 P) .nil .nil)) (.node (ho159 P) (.node (ho225 P) .nil .nil) .nil)))) (.node (ho45 P) (.node (ho57 P) (.node (ho75 P) (.node (ho107 P) (.node (ho173 P) .nil .nil) (.node (ho237 P) .nil .nil)) (.node (ho139 P) (.node (ho43 P) .nil .nil) .nil)) (.node (ho43 P) (.node (ho43 P) (.node (ho44 P) .nil .nil) (.node (ho255 P) .nil .nil)) (.node (ho155 P) (.node (ho221 P) .nil .nil) .nil))) (.node (ho43 P) (.node (ho83 P) (.node (ho115 P) (.node (ho43 P) .nil .nil) (.node (ho245 P) .nil .nil)) (.node (ho43 P) (.node (ho213 P) .nil .nil) .nil)) (.node (ho99 P) (.node (ho44 P) (.node (ho197 P) .nil .nil) .nil) (.node (ho163 P) (.node (ho229 P) .nil .nil) .nil)))))) (.node (boot_o_2 P) (.node (boot_o_4 P) (.node (boot_o_8 P) (.node (ho44 P) (.node (ho43 P) (.node (ho43 P) (.node (ho44 P) .nil .nil) (.node (ho232 P) .nil .nil)) (.node (ho134 P) (.node (ho200 P) .nil .nil) .nil)) (.node (ho86 P) (.node (ho118 P) (.node (ho43 P) .nil .nil) (.node (ho44 P) .nil .nil)) (.node (ho150 P) (.node (ho43 P) .nil .nil) .nil))) (.node (ho43 P) (.node (ho78 P) (.node (ho44 P) (.node (ho176 P) .nil .nil) (.node (ho43 P) .nil .nil)) (.node (ho142 P) (.node (ho208 P) .nil .nil) .nil)) (.node (ho94 P) (.node (ho43 P) (.node (ho192 P) .nil .nil) (.node (ho258 P) .nil .nil)) (.node (ho158 P) (.node (ho44 P) .nil .nil) .nil)))) (.node (ho248 P) (.node (ho56 P) (.node (ho43 P) (.node (ho106 P) (.node (ho172 P) .nil .nil) (.node (ho236 P) .nil .nil)) (.node (ho44 P) (.node (ho204 P) .nil .nil) .nil)) (.node (ho90 P) (.node (ho122 P) (.node (ho43 P) .nil .nil) (.node (ho254 P) .nil .nil)) (.node (ho43 P) (.node (ho220 P) .nil .nil) .nil))) (.node (ho64 P) (.node (ho44 P) (.node (ho114 P) (.node (ho180 P) .nil .nil) (.node (ho244 P) .nil .nil)) (.node (ho146 P) (.node (ho43 P) .nil .nil) .nil)) (.node (ho43 P) (.node (ho43 P) (.node (ho44 P) .nil .nil) (.node (ho262 P) .nil .nil)) (.node (ho162 P) (.node (ho228 P) .nil .nil) .nil))))) (.node (boot_o_6 P) (.node (boot_o_10 P) (.node (ho43 P) (.node (ho70 P) (.node (ho104 P) (.node (ho43 P) .nil .nil) (.node (ho234 P) .nil .nil)) (.node (ho136 P) (.node (ho43 P) .nil .nil) .nil)) (.node (ho43 P) (.node (ho120 P) (.node (ho186 P) .nil .nil) (.node (ho43 P) .nil .nil)) (.node (ho44 P) (.node (ho218 P) .nil .nil) .nil))) (.node (ho62 P) (.node (ho80 P) (.node (ho43 P) (.node (ho178 P) .nil .nil) (.node (ho43 P) .nil .nil)) (.node (ho43 P) (.node (ho44 P) .nil .nil) .nil)) (.node (ho44 P) (.node (ho128 P) (.node (ho194 P) .nil .nil) (.node (ho260 P) .nil .nil)) (.node (ho160 P) (.node (ho43 P) .nil .nil) .nil)))) (.node (ho46 P) (.node (ho43 P) (.node (ho76 P) (.node (ho108 P) (.node (ho43 P) .nil .nil) (.node (ho238 P) .nil .nil)) (.node (ho43 P) (.node (ho206 P) .nil .nil) .nil)) (.node (ho92 P) (.node (ho44 P) (.node (ho190 P) .nil .nil) (.node (ho43 P) .nil .nil)) (.node (ho156 P) (.node (ho222 P) .nil .nil) .nil))) (.node (ho44 P) (.node (ho43 P) (.node (ho43 P) (.node (ho44 P) .nil .nil) (.node (ho246 P) .nil .nil)) (.node (ho148 P) (.node (ho214 P) .nil .nil) .nil)) (.node (ho100 P) (.node (ho132 P) (.node (ho43 P) .nil .nil) .nil) (.node (ho164 P) (.node (ho43 P) .nil .nil) .nil)))))))
noncomputable def ht335 (P : Params) : BT := (.node (boot_o_0 P) (.node (boot_o_1 P) (.node (ho263 P) (.node (boot_o_7 P) (.node (ho43 P) (.node (ho43 P) (.node (ho101 P) (.node (ho43 P) (.node (ho299 P) .nil .nil) .nil) (.node (ho44 P) .nil .nil)) (.node (ho43 P) (.node (ho199 P) (.node (ho331 P) .nil .nil) .nil) (.node (ho267 P) .nil .nil))) (.node (ho85 P) (.node (ho44 P) (.node (ho183 P) (.node (ho43 P) .nil .nil) .nil) (.node (ho43 P) .nil .nil)) (.node (ho149 P) (.node (ho215 P) .nil .nil) (.node (ho43 P) .nil .nil)))) (.node (ho44 P) (.node (ho43 P) (.node (ho43 P) (.node (ho44 P) (.node (ho307 P) .nil .nil) .nil) (.node (ho239 P) .nil .nil)) (.node (ho141 P) (.node (ho207 P) .nil .nil) (.node (ho275 P) .nil .nil))) (.node (ho93 P) (.node (ho125 P) (.node (ho43 P) (.node (ho44 P) .nil .nil) .nil) (.node (ho44 P) .nil .nil)) (.node (ho157 P) (.node (ho43 P) .nil .nil) (.node (ho291 P) .nil .nil))))) (.node (ho43 P) (.node (ho55 P) (.node (ho71 P) (.node (ho43 P) (.node (ho171 P) (.node (ho303 P) .nil .nil) .nil) (.node (ho235 P) .nil .nil)) (.node (ho43 P) (.node (ho44 P) (.node (ho335 P) .nil .nil) .nil) (.node (ho271 P) .nil .nil))) (.node (ho44 P) (.node (ho121 P) (.node (ho187 P) (.node (ho319 P) .nil .nil) .nil) (.node (ho253 P) .nil .nil)) (.node (ho153 P) (.node (ho43 P) .nil .nil) (.node (ho43 P) .nil .nil)))) (.node (ho63 P) (.node (ho43 P) (.node (ho113 P) (.node (ho179 P) (.node (ho43 P) .nil .nil) .nil) (.node (ho43 P) .nil .nil)) (.node (ho44 P) (.node (ho211 P) .nil .nil) (.node (ho279 P) .nil .nil))) (.node (ho97 P) (.node (ho129 P) (.node (ho43 P) (.node (ho327 P) .nil .nil) .nil) (.node (ho261 P) .nil .nil)) (.node (ho161 P) (.node (ho227 P) .nil .nil) (.node (ho44 P) .nil .nil)))))) (.node (boot_o_5 P) (.node (boot_o_9 P) (.node (ho53 P) (.node (ho69 P) (.node (ho44 P) (.node (ho169 P) (.node (ho43 P) .nil .nil) .nil) (.node (ho43 P) .nil .nil)) (.node (ho135 P) (.node (ho201 P) (.node (ho333 P) .nil .nil) .nil) (.node (ho269 P) .nil .nil))) (.node (ho87 P) (.node (ho43 P) (.node (ho185 P) (.node (ho317 P) .nil .nil) .nil) (.node (ho251 P) .nil .nil)) (.node (ho43 P) (.node (ho44 P) .nil .nil) (.node (ho285 P) .nil .nil)))) (.node (ho43 P) (.node (ho79 P) (.node (ho111 P) (.node (ho43 P) (.node (ho44 P) .nil .nil) .nil) (.node (ho44 P) .nil .nil)) (.node (ho143 P) (.node (ho43 P) .nil .nil) (.node (ho277 P) .nil .nil))) (.node (ho43 P) (.node (ho127 P) (.node (ho193 P) (.node (ho43 P) .nil .nil) .nil) (.node (ho43 P) .nil .nil)) (.node (ho159 P) (.node (ho225 P) .nil .nil) (.node (ho293 P) .nil .nil))))) (.node (ho45 P) (.node (ho57 P) (.node (ho75 P) (.node (ho107 P) (.node (ho173 P) (.node (ho305 P) .nil .nil) .nil) (.node (ho237 P) .nil .nil)) (.node (ho139 P) (.node (ho43 P) .nil .nil) (.node (ho43 P) .nil .nil))) (.node (ho43 P) (.node (ho43 P) (.node (ho44 P) (.node (ho321 P) .nil .nil) .nil) (.node (ho255 P) .nil .nil)) (.node (ho155 P) (.node (ho221 P) .nil .nil) (.node (ho289 P) .nil .nil)))) (.node (ho43 P) (.node (ho83 P) (.node (ho115 P) (.node (ho43 P) (.node (ho313 P) .nil .nil) .nil) (.node (ho245 P) .nil .nil)) (.node (ho43 P) (.node (ho213 P) .nil .nil) (.node (ho44 P) .nil .nil))) (.node (ho99 P) (.node (ho44 P) (.node (ho197 P) (.node (ho329 P) .nil .nil) .nil) (.node (ho43 P) .nil .nil)) (.node (ho163 P) (.node (ho229 P) .nil .nil) (.node (ho43 P) .nil .nil))))))) (.node (boot_o_2 P) (.node (boot_o_4 P) (.node (boot_o_8 P) (.node (ho44 P) (.node (ho43 P) (.node (ho43 P) (.node (ho44 P) (.node (ho300 P) .nil .nil) .nil) (.node (ho232 P) .nil .nil)) (.node (ho134 P) (.node (ho200 P) (.node (ho332 P) .nil .nil) .nil) (.node (ho43 P) .nil .nil))) (.node (ho86 P) (.node (ho118 P) (.node (ho43 P) (.node (ho44 P) .nil .nil) .nil) (.node (ho44 P) .nil .nil)) (.node (ho150 P) (.node (ho43 P) .nil .nil) (.node (ho284 P) .nil .nil)))) (.node (ho43 P) (.node (ho78 P) (.node (ho44 P) (.node (ho176 P) (.node (ho43 P) .nil .nil) .nil) (.node (ho43 P) .nil .nil)) (.node (ho142 P) (.node (ho208 P) .nil .nil) (.node (ho43 P) .nil .nil))) (.node (ho94 P) (.node (ho43 P) (.node (ho192 P) (.node (ho324 P) .nil .nil) .nil) (.node (ho258 P) .nil .nil)) (.node (ho158 P) (.node (ho44 P) .nil .nil) (.node (ho292 P) .nil .nil))))) (.node (ho264 P) (.node (ho56 P) (.node (ho43 P) (.node (ho106 P) (.node (ho172 P) (.node (ho43 P) .nil .nil) .nil) (.node (ho236 P) .nil .nil)) (.node (ho44 P) (.node (ho204 P) .nil .nil) (.node (ho272 P) .nil .nil))) (.node (ho90 P) (.node (ho122 P) (.node (ho43 P) (.node (ho320 P) .nil .nil) .nil) (.node (ho254 P) .nil .nil)) (.node (ho43 P) (.node (ho220 P) .nil .nil) (.node (ho44 P) .nil .nil)))) (.node (ho64 P) (.node (ho44 P) (.node (ho114 P) (.node (ho180 P) (.node (ho312 P) .nil .nil) .nil) (.node (ho244 P) .nil .nil)) (.node (ho146 P) (.node (ho43 P) .nil .nil) (.node (ho43 P) .nil .nil))) (.node (ho43 P) (.node (ho43 P) (.node (ho44 P) (.node (ho328 P) .nil .nil) .nil) (.node (ho262 P) .nil .nil)) (.node (ho162 P) (.node (ho228 P) .nil .nil) (.node (ho296 P) .nil .nil)))))) (.node (boot_o_6 P) (.node (boot_o_10 P) (.node (ho43 P) (.node (ho70 P) (.node (ho104 P) (.node (ho43 P) (.node (ho44 P) .nil .nil) .nil) (.node (ho234 P) .nil .nil)) (.node (ho136 P) (.node (ho43 P) (.node (ho334 P) .nil .nil) .nil) (.node (ho270 P) .nil .nil))) (.node (ho43 P) (.node (ho120 P) (.node (ho186 P) (.node (ho43 P) .nil .nil) .nil) (.node (ho43 P) .nil .nil)) (.node (ho44 P) (.node (ho218 P) .nil .nil) (.node (ho286 P) .nil .nil)))) (.node (ho62 P) (.node (ho80 P) (.node (ho43 P) (.node (ho178 P) (.node (ho310 P) .nil .nil) .nil) (.node (ho43 P) .nil .nil)) (.node (ho43 P) (.node (ho44 P) .nil .nil) (.node (ho278 P) .nil .nil))) (.node (ho44 P) (.node (ho128 P) (.node (ho194 P) (.node (ho326 P) .nil .nil) .nil) (.node (ho260 P) .nil .nil)) (.node (ho160 P) (.node (ho43 P) .nil .nil) (.node (ho43 P) .nil .nil))))) (.node (ho46 P) (.node (ho43 P) (.node (ho76 P) (.node (ho108 P) (.node (ho43 P) (.node (ho306 P) .nil .nil) .nil) (.node (ho238 P) .nil .nil)) (.node (ho43 P) (.node (ho206 P) .nil .nil) (.node (ho44 P) .nil .nil))) (.node (ho92 P) (.node (ho44 P) (.node (ho190 P) (.node (ho43 P) .nil .nil) .nil) (.node (ho43 P) .nil .nil)) (.node (ho156 P) (.node (ho222 P) .nil .nil) (.node (ho43 P) .nil .nil)))) (.node (ho44 P) (.node (ho43 P) (.node (ho43 P) (.node (ho44 P) (.node (ho314 P) .nil .nil) .nil) (.node (ho246 P) .nil .nil)) (.node (ho148 P) (.node (ho214 P) .nil .nil) (.node (ho282 P) .nil .nil))) (.node (ho100 P) (.node (ho132 P) (.node (ho43 P) (.node (ho330 P) .nil .nil) .nil) (.node (ho75 P) .nil .nil)) (.node (ho164 P) (.node (ho43 P) .nil .nil) (.node (ho298 P) .nil .nil))))))))
noncomputable def ht380 (P : Params) : BT := (.node (boot_o_0 P) (.node (boot_o_1 P) (.node (ho336 P) (.node (boot_o_7 P) (.node (ho43 P) (.node (ho43 P) (.node (ho101 P) (.node (ho43 P) (.node (ho299 P) .nil .nil) .nil) (.node (ho44 P) (.node (ho365 P) .nil .nil) .nil)) (.node (ho43 P) (.node (ho199 P) (.node (ho331 P) .nil .nil) .nil) (.node (ho267 P) .nil .nil))) (.node (ho85 P) (.node (ho44 P) (.node (ho183 P) (.node (ho43 P) .nil .nil) .nil) (.node (ho43 P) .nil .nil)) (.node (ho149 P) (.node (ho215 P) (.node (ho349 P) .nil .nil) .nil) (.node (ho43 P) .nil .nil)))) (.node (ho44 P) (.node (ho43 P) (.node (ho43 P) (.node (ho44 P) (.node (ho307 P) .nil .nil) .nil) (.node (ho239 P) (.node (ho373 P) .nil .nil) .nil)) (.node (ho141 P) (.node (ho207 P) (.node (ho43 P) .nil .nil) .nil) (.node (ho275 P) .nil .nil))) (.node (ho93 P) (.node (ho125 P) (.node (ho43 P) (.node (ho44 P) .nil .nil) .nil) (.node (ho44 P) .nil .nil)) (.node (ho157 P) (.node (ho43 P) (.node (ho357 P) .nil .nil) .nil) (.node (ho291 P) .nil .nil))))) (.node (ho43 P) (.node (ho55 P) (.node (ho71 P) (.node (ho43 P) (.node (ho171 P) (.node (ho303 P) .nil .nil) .nil) (.node (ho235 P) (.node (ho369 P) .nil .nil) .nil)) (.node (ho43 P) (.node (ho44 P) (.node (ho335 P) .nil .nil) .nil) (.node (ho271 P) .nil .nil))) (.node (ho44 P) (.node (ho121 P) (.node (ho187 P) (.node (ho319 P) .nil .nil) .nil) (.node (ho253 P) .nil .nil)) (.node (ho153 P) (.node (ho43 P) (.node (ho43 P) .nil .nil) .nil) (.node (ho43 P) .nil .nil)))) (.node (ho63 P) (.node (ho43 P) (.node (ho113 P) (.node (ho179 P) (.node (ho43 P) .nil .nil) .nil) (.node (ho43 P) (.node (ho43 P) .nil .nil) .nil)) (.node (ho44 P) (.node (ho211 P) (.node (ho43 P) .nil .nil) .nil) (.node (ho279 P) .nil .nil))) (.node (ho97 P) (.node (ho129 P) (.node (ho43 P) (.node (ho327 P) .nil .nil) .nil) (.node (ho261 P) .nil .nil)) (.node (ho161 P) (.node (ho227 P) (.node (ho44 P) .nil .nil) .nil) (.node (ho44 P) .nil .nil)))))) (.node (boot_o_5 P) (.node (boot_o_9 P) (.node (ho53 P) (.node (ho69 P) (.node (ho44 P) (.node (ho169 P) (.node (ho43 P) .nil .nil) .nil) (.node (ho43 P) (.node (ho43 P) .nil .nil) .nil)) (.node (ho135 P) (.node (ho201 P) (.node (ho333 P) .nil .nil) .nil) (.node (ho269 P) .nil .nil))) (.node (ho87 P) (.node (ho43 P) (.node (ho185 P) (.node (ho317 P) .nil .nil) .nil) (.node (ho251 P) .nil .nil)) (.node (ho43 P) (.node (ho44 P) (.node (ho351 P) .nil .nil) .nil) (.node (ho285 P) .nil .nil)))) (.node (ho43 P) (.node (ho79 P) (.node (ho111 P) (.node (ho43 P) (.node (ho44 P) .nil .nil) .nil) (.node (ho44 P) (.node (ho44 P) .nil .nil) .nil)) (.node (ho143 P) (.node (ho43 P) (.node (ho343 P) .nil .nil) .nil) (.node (ho277 P) .nil .nil))) (.node (ho43 P) (.node (ho127 P) (.node (ho193 P) (.node (ho43 P) .nil .nil) .nil) (.node (ho43 P) .nil .nil)) (.node (ho159 P) (.node (ho225 P) (.node (ho359 P) .nil .nil) .nil) (.node (ho293 P) .nil .nil))))) (.node (ho45 P) (.node (ho57 P) (.node (ho75 P) (.node (ho107 P) (.node (ho173 P) (.node (ho305 P) .nil .nil) .nil) (.node (ho237 P) (.node (ho371 P) .nil .nil) .nil)) (.node (ho139 P) (.node (ho43 P) (.node (ho44 P) .nil .nil) .nil) (.node (ho43 P) .nil .nil))) (.node (ho43 P) (.node (ho43 P) (.node (ho44 P) (.node (ho321 P) .nil .nil) .nil) (.node (ho255 P) .nil .nil)) (.node (ho155 P) (.node (ho221 P) (.node (ho355 P) .nil .nil) .nil) (.node (ho289 P) .nil .nil)))) (.node (ho43 P) (.node (ho83 P) (.node (ho115 P) (.node (ho43 P) (.node (ho313 P) .nil .nil) .nil) (.node (ho245 P) (.node (ho379 P) .nil .nil) .nil)) (.node (ho43 P) (.node (ho213 P) (.node (ho347 P) .nil .nil) .nil) (.node (ho44 P) .nil .nil))) (.node (ho99 P) (.node (ho44 P) (.node (ho197 P) (.node (ho329 P) .nil .nil) .nil) (.node (ho43 P) .nil .nil)) (.node (ho163 P) (.node (ho229 P) (.node (ho43 P) .nil .nil) .nil) (.node (ho43 P) .nil .nil))))))) (.node (boot_o_2 P) (.node (boot_o_4 P) (.node (boot_o_8 P) (.node (ho44 P) (.node (ho43 P) (.node (ho43 P) (.node (ho44 P) (.node (ho300 P) .nil .nil) .nil) (.node (ho232 P) (.node (ho366 P) .nil .nil) .nil)) (.node (ho134 P) (.node (ho200 P) (.node (ho332 P) .nil .nil) .nil) (.node (ho43 P) .nil .nil))) (.node (ho86 P) (.node (ho118 P) (.node (ho43 P) (.node (ho44 P) .nil .nil) .nil) (.node (ho44 P) .nil .nil)) (.node (ho150 P) (.node (ho43 P) (.node (ho350 P) .nil .nil) .nil) (.node (ho284 P) .nil .nil)))) (.node (ho43 P) (.node (ho78 P) (.node (ho44 P) (.node (ho176 P) (.node (ho43 P) .nil .nil) .nil) (.node (ho43 P) (.node (ho43 P) .nil .nil) .nil)) (.node (ho142 P) (.node (ho208 P) (.node (ho342 P) .nil .nil) .nil) (.node (ho43 P) .nil .nil))) (.node (ho94 P) (.node (ho43 P) (.node (ho192 P) (.node (ho324 P) .nil .nil) .nil) (.node (ho258 P) .nil .nil)) (.node (ho158 P) (.node (ho44 P) (.node (ho358 P) .nil .nil) .nil) (.node (ho292 P) .nil .nil))))) (.node (ho337 P) (.node (ho56 P) (.node (ho43 P) (.node (ho106 P) (.node (ho172 P) (.node (ho43 P) .nil .nil) .nil) (.node (ho236 P) (.node (ho43 P) .nil .nil) .nil)) (.node (ho44 P) (.node (ho204 P) (.node (ho43 P) .nil .nil) .nil) (.node (ho272 P) .nil .nil))) (.node (ho90 P) (.node (ho122 P) (.node (ho43 P) (.node (ho320 P) .nil .nil) .nil) (.node (ho254 P) .nil .nil)) (.node (ho43 P) (.node (ho220 P) (.node (ho44 P) .nil .nil) .nil) (.node (ho44 P) .nil .nil)))) (.node (ho64 P) (.node (ho44 P) (.node (ho114 P) (.node (ho180 P) (.node (ho312 P) .nil .nil) .nil) (.node (ho244 P) (.node (ho378 P) .nil .nil) .nil)) (.node (ho146 P) (.node (ho43 P) (.node (ho44 P) .nil .nil) .nil) (.node (ho43 P) .nil .nil))) (.node (ho43 P) (.node (ho43 P) (.node (ho44 P) (.node (ho328 P) .nil .nil) .nil) (.node (ho262 P) .nil .nil)) (.node (ho162 P) (.node (ho228 P) (.node (ho362 P) .nil .nil) .nil) (.node (ho296 P) .nil .nil)))))) (.node (boot_o_6 P) (.node (boot_o_10 P) (.node (ho43 P) (.node (ho70 P) (.node (ho104 P) (.node (ho43 P) (.node (ho44 P) .nil .nil) .nil) (.node (ho234 P) (.node (ho44 P) .nil .nil) .nil)) (.node (ho136 P) (.node (ho43 P) (.node (ho334 P) .nil .nil) .nil) (.node (ho270 P) .nil .nil))) (.node (ho43 P) (.node (ho120 P) (.node (ho186 P) (.node (ho43 P) .nil .nil) .nil) (.node (ho43 P) .nil .nil)) (.node (ho44 P) (.node (ho218 P) (.node (ho272 P) .nil .nil) .nil) (.node (ho286 P) .nil .nil)))) (.node (ho62 P) (.node (ho80 P) (.node (ho43 P) (.node (ho178 P) (.node (ho310 P) .nil .nil) .nil) (.node (ho43 P) (.node (ho376 P) .nil .nil) .nil)) (.node (ho43 P) (.node (ho44 P) (.node (ho344 P) .nil .nil) .nil) (.node (ho278 P) .nil .nil))) (.node (ho44 P) (.node (ho128 P) (.node (ho194 P) (.node (ho326 P) .nil .nil) .nil) (.node (ho260 P) .nil .nil)) (.node (ho160 P) (.node (ho43 P) (.node (ho43 P) .nil .nil) .nil) (.node (ho43 P) .nil .nil))))) (.node (ho46 P) (.node (ho43 P) (.node (ho76 P) (.node (ho108 P) (.node (ho43 P) (.node (ho306 P) .nil .nil) .nil) (.node (ho238 P) (.node (ho372 P) .nil .nil) .nil)) (.node (ho43 P) (.node (ho206 P) (.node (ho340 P) .nil .nil) .nil) (.node (ho44 P) .nil .nil))) (.node (ho92 P) (.node (ho44 P) (.node (ho190 P) (.node (ho43 P) .nil .nil) .nil) (.node (ho43 P) .nil .nil)) (.node (ho156 P) (.node (ho222 P) (.node (ho43 P) .nil .nil) .nil) (.node (ho43 P) .nil .nil)))) (.node (ho44 P) (.node (ho43 P) (.node (ho43 P) (.node (ho44 P) (.node (ho314 P) .nil .nil) .nil) (.node (ho246 P) (.node (ho380 P) .nil .nil) .nil)) (.node (ho148 P) (.node (ho214 P) (.node (ho43 P) .nil .nil) .nil) (.node (ho282 P) .nil .nil))) (.node (ho100 P) (.node (ho132 P) (.node (ho43 P) (.node (ho330 P) .nil .nil) .nil) (.node (ho75 P) .nil .nil)) (.node (ho164 P) (.node (ho43 P) (.node (ho364 P) .nil .nil) .nil) (.node (ho298 P) .nil .nil))))))))
noncomputable def ht524 (P : Params) : BT := (.node (boot_o_0 P) (.node (boot_o_1 P) (.node (ho381 P) (.node (boot_o_7 P) (.node (ho43 P) (.node (ho43 P) (.node (ho101 P) (.node (ho43 P) (.node (ho299 P) .nil .nil) (.node (ho431 P) .nil .nil)) (.node (ho44 P) (.node (ho365 P) .nil .nil) (.node (ho495 P) .nil .nil))) (.node (ho43 P) (.node (ho199 P) (.node (ho331 P) .nil .nil) (.node (ho44 P) .nil .nil)) (.node (ho267 P) (.node (ho43 P) .nil .nil) .nil))) (.node (ho85 P) (.node (ho44 P) (.node (ho183 P) (.node (ho43 P) .nil .nil) (.node (ho447 P) .nil .nil)) (.node (ho43 P) (.node (ho43 P) .nil .nil) (.node (ho43 P) .nil .nil))) (.node (ho149 P) (.node (ho215 P) (.node (ho349 P) .nil .nil) (.node (ho43 P) .nil .nil)) (.node (ho43 P) (.node (ho415 P) .nil .nil) .nil)))) (.node (ho44 P) (.node (ho43 P) (.node (ho43 P) (.node (ho44 P) (.node (ho307 P) .nil .nil) (.node (ho439 P) .nil .nil)) (.node (ho239 P) (.node (ho373 P) .nil .nil) (.node (ho503 P) .nil .nil))) (.node (ho141 P) (.node (ho207 P) (.node (ho43 P) .nil .nil) (.node (ho471 P) .nil .nil)) (.node (ho275 P) (.node (ho44 P) .nil .nil) .nil))) (.node (ho93 P) (.node (ho125 P) (.node (ho43 P) (.node (ho44 P) .nil .nil) (.node (ho43 P) .nil .nil)) (.node (ho44 P) (.node (ho43 P) .nil .nil) (.node (ho519 P) .nil .nil))) (.node (ho157 P) (.node (ho43 P) (.node (ho357 P) .nil .nil) (.node (ho487 P) .nil .nil)) (.node (ho291 P) (.node (ho43 P) .nil .nil) .nil))))) (.node (ho43 P) (.node (ho55 P) (.node (ho71 P) (.node (ho43 P) (.node (ho171 P) (.node (ho303 P) .nil .nil) (.node (ho44 P) .nil .nil)) (.node (ho235 P) (.node (ho369 P) .nil .nil) (.node (ho499 P) .nil .nil))) (.node (ho43 P) (.node (ho44 P) (.node (ho335 P) .nil .nil) (.node (ho467 P) .nil .nil)) (.node (ho271 P) (.node (ho403 P) .nil .nil) .nil))) (.node (ho44 P) (.node (ho121 P) (.node (ho187 P) (.node (ho319 P) .nil .nil) (.node (ho43 P) .nil .nil)) (.node (ho253 P) (.node (ho387 P) .nil .nil) (.node (ho515 P) .nil .nil))) (.node (ho153 P) (.node (ho43 P) (.node (ho43 P) .nil .nil) (.node (ho43 P) .nil .nil)) (.node (ho43 P) (.node (ho419 P) .nil .nil) .nil)))) (.node (ho63 P) (.node (ho43 P) (.node (ho113 P) (.node (ho179 P) (.node (ho43 P) .nil .nil) (.node (ho443 P) .nil .nil)) (.node (ho43 P) (.node (ho43 P) .nil .nil) (.node (ho43 P) .nil .nil))) (.node (ho44 P) (.node (ho211 P) (.node (ho43 P) .nil .nil) (.node (ho475 P) .nil .nil)) (.node (ho279 P) (.node (ho411 P) .nil .nil) .nil))) (.node (ho97 P) (.node (ho129 P) (.node (ho43 P) (.node (ho327 P) .nil .nil) (.node (ho459 P) .nil .nil)) (.node (ho261 P) (.node (ho395 P) .nil .nil) (.node (ho523 P) .nil .nil))) (.node (ho161 P) (.node (ho227 P) (.node (ho44 P) .nil .nil) (.node (ho44 P) .nil .nil)) (.node (ho44 P) (.node (ho43 P) .nil .nil) .nil)))))) (.node (boot_o_5 P) (.node (boot_o_9 P) (.node (ho53 P) (.node (ho69 P) (.node (ho44 P) (.node (ho169 P) (.node (ho43 P) .nil .nil) (.node (ho433 P) .nil .nil)) (.node (ho43 P) (.node (ho43 P) .nil .nil) (.node (ho43 P) .nil .nil))) (.node (ho135 P) (.node (ho201 P) (.node (ho333 P) .nil .nil) (.node (ho43 P) .nil .nil)) (.node (ho269 P) (.node (ho401 P) .nil .nil) .nil))) (.node (ho87 P) (.node (ho43 P) (.node (ho185 P) (.node (ho317 P) .nil .nil) (.node (ho44 P) .nil .nil)) (.node (ho251 P) (.node (ho385 P) .nil .nil) (.node (ho513 P) .nil .nil))) (.node (ho43 P) (.node (ho44 P) (.node (ho351 P) .nil .nil) (.node (ho481 P) .nil .nil)) (.node (ho285 P) (.node (ho417 P) .nil .nil) .nil)))) (.node (ho43 P) (.node (ho79 P) (.node (ho111 P) (.node (ho43 P) (.node (ho44 P) .nil .nil) (.node (ho43 P) .nil .nil)) (.node (ho44 P) (.node (ho44 P) .nil .nil) (.node (ho44 P) .nil .nil))) (.node (ho143 P) (.node (ho43 P) (.node (ho343 P) .nil .nil) (.node (ho473 P) .nil .nil)) (.node (ho277 P) (.node (ho43 P) .nil .nil) .nil))) (.node (ho43 P) (.node (ho127 P) (.node (ho193 P) (.node (ho43 P) .nil .nil) (.node (ho457 P) .nil .nil)) (.node (ho43 P) (.node (ho393 P) .nil .nil) (.node (ho521 P) .nil .nil))) (.node (ho159 P) (.node (ho225 P) (.node (ho359 P) .nil .nil) (.node (ho489 P) .nil .nil)) (.node (ho293 P) (.node (ho425 P) .nil .nil) .nil))))) (.node (ho45 P) (.node (ho57 P) (.node (ho75 P) (.node (ho107 P) (.node (ho173 P) (.node (ho305 P) .nil .nil) (.node (ho43 P) .nil .nil)) (.node (ho237 P) (.node (ho371 P) .nil .nil) (.node (ho501 P) .nil .nil))) (.node (ho139 P) (.node (ho43 P) (.node (ho44 P) .nil .nil) (.node (ho43 P) .nil .nil)) (.node (ho43 P) (.node (ho405 P) .nil .nil) .nil))) (.node (ho43 P) (.node (ho43 P) (.node (ho44 P) (.node (ho321 P) .nil .nil) (.node (ho453 P) .nil .nil)) (.node (ho255 P) (.node (ho389 P) .nil .nil) (.node (ho517 P) .nil .nil))) (.node (ho155 P) (.node (ho221 P) (.node (ho355 P) .nil .nil) (.node (ho485 P) .nil .nil)) (.node (ho289 P) (.node (ho44 P) .nil .nil) .nil)))) (.node (ho43 P) (.node (ho83 P) (.node (ho115 P) (.node (ho43 P) (.node (ho313 P) .nil .nil) (.node (ho445 P) .nil .nil)) (.node (ho245 P) (.node (ho379 P) .nil .nil) (.node (ho509 P) .nil .nil))) (.node (ho43 P) (.node (ho213 P) (.node (ho347 P) .nil .nil) (.node (ho44 P) .nil .nil)) (.node (ho44 P) (.node (ho43 P) .nil .nil) .nil))) (.node (ho99 P) (.node (ho44 P) (.node (ho197 P) (.node (ho329 P) .nil .nil) (.node (ho461 P) .nil .nil)) (.node (ho43 P) (.node (ho397 P) .nil .nil) .nil)) (.node (ho163 P) (.node (ho229 P) (.node (ho43 P) .nil .nil) (.node (ho43 P) .nil .nil)) (.node (ho43 P) (.node (ho429 P) .nil .nil) .nil))))))) (.node (boot_o_2 P) (.node (boot_o_4 P) (.node (boot_o_8 P) (.node (ho44 P) (.node (ho43 P) (.node (ho43 P) (.node (ho44 P) (.node (ho300 P) .nil .nil) (.node (ho432 P) .nil .nil)) (.node (ho232 P) (.node (ho366 P) .nil .nil) (.node (ho496 P) .nil .nil))) (.node (ho134 P) (.node (ho200 P) (.node (ho332 P) .nil .nil) (.node (ho464 P) .nil .nil)) (.node (ho43 P) (.node (ho44 P) .nil .nil) .nil))) (.node (ho86 P) (.node (ho118 P) (.node (ho43 P) (.node (ho44 P) .nil .nil) (.node (ho43 P) .nil .nil)) (.node (ho44 P) (.node (ho75 P) .nil .nil) (.node (ho44 P) .nil .nil))) (.node (ho150 P) (.node (ho43 P) (.node (ho350 P) .nil .nil) (.node (ho480 P) .nil .nil)) (.node (ho284 P) (.node (ho43 P) .nil .nil) .nil)))) (.node (ho43 P) (.node (ho78 P) (.node (ho44 P) (.node (ho176 P) (.node (ho43 P) .nil .nil) (.node (ho440 P) .nil .nil)) (.node (ho43 P) (.node (ho43 P) .nil .nil) (.node (ho43 P) .nil .nil))) (.node (ho142 P) (.node (ho208 P) (.node (ho342 P) .nil .nil) (.node (ho43 P) .nil .nil)) (.node (ho43 P) (.node (ho408 P) .nil .nil) .nil))) (.node (ho94 P) (.node (ho43 P) (.node (ho192 P) (.node (ho324 P) .nil .nil) (.node (ho44 P) .nil .nil)) (.node (ho258 P) (.node (ho44 P) .nil .nil) (.node (ho520 P) .nil .nil))) (.node (ho158 P) (.node (ho44 P) (.node (ho358 P) .nil .nil) (.node (ho488 P) .nil .nil)) (.node (ho292 P) (.node (ho424 P) .nil .nil) .nil))))) (.node (ho382 P) (.node (ho56 P) (.node (ho43 P) (.node (ho106 P) (.node (ho172 P) (.node (ho43 P) .nil .nil) (.node (ho436 P) .nil .nil)) (.node (ho236 P) (.node (ho43 P) .nil .nil) (.node (ho43 P) .nil .nil))) (.node (ho44 P) (.node (ho204 P) (.node (ho43 P) .nil .nil) (.node (ho468 P) .nil .nil)) (.node (ho272 P) (.node (ho404 P) .nil .nil) .nil))) (.node (ho90 P) (.node (ho122 P) (.node (ho43 P) (.node (ho320 P) .nil .nil) (.node (ho452 P) .nil .nil)) (.node (ho254 P) (.node (ho388 P) .nil .nil) (.node (ho516 P) .nil .nil))) (.node (ho43 P) (.node (ho220 P) (.node (ho44 P) .nil .nil) (.node (ho44 P) .nil .nil)) (.node (ho44 P) (.node (ho43 P) .nil .nil) .nil)))) (.node (ho64 P) (.node (ho44 P) (.node (ho114 P) (.node (ho180 P) (.node (ho312 P) .nil .nil) (.node (ho43 P) .nil .nil)) (.node (ho244 P) (.node (ho378 P) .nil .nil) (.node (ho508 P) .nil .nil))) (.node (ho146 P) (.node (ho43 P) (.node (ho44 P) .nil .nil) (.node (ho43 P) .nil .nil)) (.node (ho43 P) (.node (ho412 P) .nil .nil) .nil))) (.node (ho43 P) (.node (ho43 P) (.node (ho44 P) (.node (ho328 P) .nil .nil) (.node (ho460 P) .nil .nil)) (.node (ho262 P) (.node (ho396 P) .nil .nil) (.node (ho524 P) .nil .nil))) (.node (ho162 P) (.node (ho228 P) (.node (ho362 P) .nil .nil) (.node (ho492 P) .nil .nil)) (.node (ho296 P) (.node (ho44 P) .nil .nil) .nil)))))) (.node (boot_o_6 P) (.node (boot_o_10 P) (.node (ho43 P) (.node (ho70 P) (.node (ho104 P) (.node (ho43 P) (.node (ho44 P) .nil .nil) (.node (ho43 P) .nil .nil)) (.node (ho234 P) (.node (ho44 P) .nil .nil) (.node (ho44 P) .nil .nil))) (.node (ho136 P) (.node (ho43 P) (.node (ho334 P) .nil .nil) (.node (ho466 P) .nil .nil)) (.node (ho270 P) (.node (ho43 P) .nil .nil) .nil))) (.node (ho43 P) (.node (ho120 P) (.node (ho186 P) (.node (ho43 P) .nil .nil) (.node (ho450 P) .nil .nil)) (.node (ho43 P) (.node (ho43 P) .nil .nil) (.node (ho43 P) .nil .nil))) (.node (ho44 P) (.node (ho218 P) (.node (ho272 P) .nil .nil) (.node (ho482 P) .nil .nil)) (.node (ho286 P) (.node (ho418 P) .nil .nil) .nil)))) (.node (ho62 P) (.node (ho80 P) (.node (ho43 P) (.node (ho178 P) (.node (ho310 P) .nil .nil) (.node (ho44 P) .nil .nil)) (.node (ho43 P) (.node (ho376 P) .nil .nil) (.node (ho506 P) .nil .nil))) (.node (ho43 P) (.node (ho44 P) (.node (ho344 P) .nil .nil) (.node (ho474 P) .nil .nil)) (.node (ho278 P) (.node (ho410 P) .nil .nil) .nil))) (.node (ho44 P) (.node (ho128 P) (.node (ho194 P) (.node (ho326 P) .nil .nil) (.node (ho43 P) .nil .nil)) (.node (ho260 P) (.node (ho43 P) .nil .nil) (.node (ho522 P) .nil .nil))) (.node (ho160 P) (.node (ho43 P) (.node (ho43 P) .nil .nil) (.node (ho43 P) .nil .nil)) (.node (ho43 P) (.node (ho426 P) .nil .nil) .nil))))) (.node (ho46 P) (.node (ho43 P) (.node (ho76 P) (.node (ho108 P) (.node (ho43 P) (.node (ho306 P) .nil .nil) (.node (ho438 P) .nil .nil)) (.node (ho238 P) (.node (ho372 P) .nil .nil) (.node (ho502 P) .nil .nil))) (.node (ho43 P) (.node (ho206 P) (.node (ho340 P) .nil .nil) (.node (ho44 P) .nil .nil)) (.node (ho44 P) (.node (ho43 P) .nil .nil) .nil))) (.node (ho92 P) (.node (ho44 P) (.node (ho190 P) (.node (ho43 P) .nil .nil) (.node (ho454 P) .nil .nil)) (.node (ho43 P) (.node (ho390 P) .nil .nil) (.node (ho518 P) .nil .nil))) (.node (ho156 P) (.node (ho222 P) (.node (ho43 P) .nil .nil) (.node (ho43 P) .nil .nil)) (.node (ho43 P) (.node (ho422 P) .nil .nil) .nil)))) (.node (ho44 P) (.node (ho43 P) (.node (ho43 P) (.node (ho44 P) (.node (ho314 P) .nil .nil) (.node (ho446 P) .nil .nil)) (.node (ho246 P) (.node (ho380 P) .nil .nil) (.node (ho510 P) .nil .nil))) (.node (ho148 P) (.node (ho214 P) (.node (ho43 P) .nil .nil) (.node (ho478 P) .nil .nil)) (.node (ho282 P) (.node (ho44 P) .nil .nil) .nil))) (.node (ho100 P) (.node (ho132 P) (.node (ho43 P) (.node (ho330 P) .nil .nil) (.node (ho43 P) .nil .nil)) (.node (ho75 P) (.node (ho398 P) .nil .nil) .nil)) (.node (ho164 P) (.node (ho43 P) (.node (ho364 P) .nil .nil) (.node (ho494 P) .nil .nil)) (.node (ho298 P) (.node (ho43 P) .nil .nil) .nil))))))))
noncomputable def ht604 (P : Params) : BT := (.node (boot_o_0 P) (.node (boot_o_1 P) (.node (ho336 P) (.node (boot_o_7 P) (.node (ho43 P) (.node (ho43 P) (.node (ho101 P) (.node (ho43 P) (.node (ho299 P) .nil .nil) (.node (ho431 P) .nil .nil)) (.node (ho44 P) (.node (ho365 P) .nil .nil) .nil)) (.node (ho43 P) (.node (ho199 P) (.node (ho331 P) .nil .nil) .nil) (.node (ho267 P) (.node (ho43 P) .nil .nil) .nil))) (.node (ho85 P) (.node (ho44 P) (.node (ho183 P) (.node (ho43 P) .nil .nil) (.node (ho447 P) .nil .nil)) (.node (ho43 P) (.node (ho43 P) .nil .nil) .nil)) (.node (ho149 P) (.node (ho215 P) (.node (ho349 P) .nil .nil) .nil) (.node (ho43 P) (.node (ho415 P) .nil .nil) .nil)))) (.node (ho44 P) (.node (ho43 P) (.node (ho43 P) (.node (ho44 P) (.node (ho307 P) .nil .nil) (.node (ho439 P) .nil .nil)) (.node (ho239 P) (.node (ho373 P) .nil .nil) .nil)) (.node (ho141 P) (.node (ho207 P) (.node (ho43 P) .nil .nil) .nil) (.node (ho275 P) (.node (ho44 P) .nil .nil) .nil))) (.node (ho93 P) (.node (ho125 P) (.node (ho43 P) (.node (ho44 P) .nil .nil) (.node (ho43 P) .nil .nil)) (.node (ho44 P) (.node (ho43 P) .nil .nil) .nil)) (.node (ho157 P) (.node (ho43 P) (.node (ho357 P) .nil .nil) .nil) (.node (ho291 P) (.node (ho43 P) .nil .nil) .nil))))) (.node (ho43 P) (.node (ho55 P) (.node (ho71 P) (.node (ho43 P) (.node (ho171 P) (.node (ho303 P) .nil .nil) (.node (ho44 P) .nil .nil)) (.node (ho235 P) (.node (ho369 P) .nil .nil) .nil)) (.node (ho43 P) (.node (ho44 P) (.node (ho335 P) .nil .nil) .nil) (.node (ho271 P) (.node (ho403 P) .nil .nil) .nil))) (.node (ho44 P) (.node (ho121 P) (.node (ho187 P) (.node (ho319 P) .nil .nil) (.node (ho43 P) .nil .nil)) (.node (ho253 P) (.node (ho530 P) .nil .nil) .nil)) (.node (ho153 P) (.node (ho43 P) (.node (ho43 P) .nil .nil) .nil) (.node (ho43 P) (.node (ho419 P) .nil .nil) .nil)))) (.node (ho63 P) (.node (ho43 P) (.node (ho113 P) (.node (ho179 P) (.node (ho43 P) .nil .nil) (.node (ho443 P) .nil .nil)) (.node (ho43 P) (.node (ho43 P) .nil .nil) .nil)) (.node (ho44 P) (.node (ho211 P) (.node (ho43 P) .nil .nil) .nil) (.node (ho279 P) (.node (ho411 P) .nil .nil) .nil))) (.node (ho97 P) (.node (ho129 P) (.node (ho43 P) (.node (ho327 P) .nil .nil) (.node (ho459 P) .nil .nil)) (.node (ho261 P) (.node (ho395 P) .nil .nil) .nil)) (.node (ho161 P) (.node (ho227 P) (.node (ho44 P) .nil .nil) .nil) (.node (ho44 P) (.node (ho43 P) .nil .nil) .nil)))))) (.node (boot_o_5 P) (.node (boot_o_9 P) (.node (ho53 P) (.node (ho69 P) (.node (ho44 P) (.node (ho169 P) (.node (ho43 P) .nil .nil) (.node (ho433 P) .nil .nil)) (.node (ho43 P) (.node (ho43 P) .nil .nil) .nil)) (.node (ho135 P) (.node (ho201 P) (.node (ho333 P) .nil .nil) .nil) (.node (ho269 P) (.node (ho401 P) .nil .nil) .nil))) (.node (ho87 P) (.node (ho43 P) (.node (ho185 P) (.node (ho317 P) .nil .nil) (.node (ho44 P) .nil .nil)) (.node (ho251 P) (.node (ho528 P) .nil .nil) .nil)) (.node (ho43 P) (.node (ho44 P) (.node (ho351 P) .nil .nil) .nil) (.node (ho285 P) (.node (ho417 P) .nil .nil) .nil)))) (.node (ho43 P) (.node (ho79 P) (.node (ho111 P) (.node (ho43 P) (.node (ho44 P) .nil .nil) (.node (ho43 P) .nil .nil)) (.node (ho44 P) (.node (ho44 P) .nil .nil) .nil)) (.node (ho143 P) (.node (ho43 P) (.node (ho343 P) .nil .nil) .nil) (.node (ho277 P) (.node (ho43 P) .nil .nil) .nil))) (.node (ho43 P) (.node (ho127 P) (.node (ho193 P) (.node (ho43 P) .nil .nil) (.node (ho457 P) .nil .nil)) (.node (ho43 P) (.node (ho393 P) .nil .nil) .nil)) (.node (ho159 P) (.node (ho225 P) (.node (ho359 P) .nil .nil) .nil) (.node (ho293 P) (.node (ho425 P) .nil .nil) .nil))))) (.node (ho45 P) (.node (ho57 P) (.node (ho75 P) (.node (ho107 P) (.node (ho173 P) (.node (ho305 P) .nil .nil) (.node (ho43 P) .nil .nil)) (.node (ho237 P) (.node (ho371 P) .nil .nil) .nil)) (.node (ho139 P) (.node (ho43 P) (.node (ho44 P) .nil .nil) .nil) (.node (ho43 P) (.node (ho405 P) .nil .nil) .nil))) (.node (ho43 P) (.node (ho43 P) (.node (ho44 P) (.node (ho321 P) .nil .nil) (.node (ho453 P) .nil .nil)) (.node (ho255 P) (.node (ho389 P) .nil .nil) .nil)) (.node (ho155 P) (.node (ho221 P) (.node (ho355 P) .nil .nil) .nil) (.node (ho289 P) (.node (ho44 P) .nil .nil) .nil)))) (.node (ho43 P) (.node (ho83 P) (.node (ho115 P) (.node (ho43 P) (.node (ho313 P) .nil .nil) (.node (ho445 P) .nil .nil)) (.node (ho245 P) (.node (ho379 P) .nil .nil) .nil)) (.node (ho43 P) (.node (ho213 P) (.node (ho347 P) .nil .nil) .nil) (.node (ho44 P) (.node (ho43 P) .nil .nil) .nil))) (.node (ho99 P) (.node (ho44 P) (.node (ho197 P) (.node (ho329 P) .nil .nil) (.node (ho461 P) .nil .nil)) (.node (ho43 P) (.node (ho397 P) .nil .nil) .nil)) (.node (ho163 P) (.node (ho229 P) (.node (ho43 P) .nil .nil) .nil) (.node (ho43 P) (.node (ho429 P) .nil .nil) .nil))))))) (.node (boot_o_2 P) (.node (boot_o_4 P) (.node (boot_o_8 P) (.node (ho44 P) (.node (ho43 P) (.node (ho43 P) (.node (ho44 P) (.node (ho300 P) .nil .nil) (.node (ho432 P) .nil .nil)) (.node (ho232 P) (.node (ho366 P) .nil .nil) .nil)) (.node (ho134 P) (.node (ho200 P) (.node (ho332 P) .nil .nil) .nil) (.node (ho43 P) (.node (ho44 P) .nil .nil) .nil))) (.node (ho86 P) (.node (ho118 P) (.node (ho43 P) (.node (ho44 P) .nil .nil) (.node (ho43 P) .nil .nil)) (.node (ho44 P) (.node (ho75 P) .nil .nil) .nil)) (.node (ho150 P) (.node (ho43 P) (.node (ho350 P) .nil .nil) .nil) (.node (ho284 P) (.node (ho43 P) .nil .nil) .nil)))) (.node (ho43 P) (.node (ho78 P) (.node (ho44 P) (.node (ho176 P) (.node (ho43 P) .nil .nil) (.node (ho440 P) .nil .nil)) (.node (ho43 P) (.node (ho43 P) .nil .nil) .nil)) (.node (ho142 P) (.node (ho208 P) (.node (ho342 P) .nil .nil) .nil) (.node (ho43 P) (.node (ho408 P) .nil .nil) .nil))) (.node (ho94 P) (.node (ho43 P) (.node (ho192 P) (.node (ho324 P) .nil .nil) (.node (ho44 P) .nil .nil)) (.node (ho258 P) (.node (ho44 P) .nil .nil) .nil)) (.node (ho158 P) (.node (ho44 P) (.node (ho358 P) .nil .nil) .nil) (.node (ho292 P) (.node (ho424 P) .nil .nil) .nil))))) (.node (ho382 P) (.node (ho56 P) (.node (ho43 P) (.node (ho106 P) (.node (ho172 P) (.node (ho43 P) .nil .nil) (.node (ho436 P) .nil .nil)) (.node (ho236 P) (.node (ho43 P) .nil .nil) .nil)) (.node (ho44 P) (.node (ho204 P) (.node (ho43 P) .nil .nil) .nil) (.node (ho272 P) (.node (ho404 P) .nil .nil) .nil))) (.node (ho90 P) (.node (ho122 P) (.node (ho43 P) (.node (ho320 P) .nil .nil) (.node (ho452 P) .nil .nil)) (.node (ho254 P) (.node (ho388 P) .nil .nil) .nil)) (.node (ho43 P) (.node (ho220 P) (.node (ho44 P) .nil .nil) .nil) (.node (ho44 P) (.node (ho43 P) .nil .nil) .nil)))) (.node (ho64 P) (.node (ho44 P) (.node (ho114 P) (.node (ho180 P) (.node (ho312 P) .nil .nil) (.node (ho43 P) .nil .nil)) (.node (ho244 P) (.node (ho378 P) .nil .nil) .nil)) (.node (ho146 P) (.node (ho43 P) (.node (ho44 P) .nil .nil) .nil) (.node (ho43 P) (.node (ho412 P) .nil .nil) .nil))) (.node (ho43 P) (.node (ho43 P) (.node (ho44 P) (.node (ho328 P) .nil .nil) (.node (ho460 P) .nil .nil)) (.node (ho262 P) (.node (ho396 P) .nil .nil) .nil)) (.node (ho162 P) (.node (ho228 P) (.node (ho362 P) .nil .nil) .nil) (.node (ho296 P) (.node (ho44 P) .nil .nil) .nil)))))) (.node (boot_o_6 P) (.node (boot_o_10 P) (.node (ho43 P) (.node (ho70 P) (.node (ho104 P) (.node (ho43 P) (.node (ho44 P) .nil .nil) (.node (ho43 P) .nil .nil)) (.node (ho234 P) (.node (ho44 P) .nil .nil) .nil)) (.node (ho136 P) (.node (ho43 P) (.node (ho334 P) .nil .nil) .nil) (.node (ho270 P) (.node (ho43 P) .nil .nil) .nil))) (.node (ho43 P) (.node (ho120 P) (.node (ho186 P) (.node (ho43 P) .nil .nil) (.node (ho450 P) .nil .nil)) (.node (ho43 P) (.node (ho43 P) .nil .nil) .nil)) (.node (ho44 P) (.node (ho218 P) (.node (ho272 P) .nil .nil) .nil) (.node (ho286 P) (.node (ho418 P) .nil .nil) .nil)))) (.node (ho62 P) (.node (ho80 P) (.node (ho43 P) (.node (ho178 P) (.node (ho310 P) .nil .nil) (.node (ho44 P) .nil .nil)) (.node (ho43 P) (.node (ho376 P) .nil .nil) .nil)) (.node (ho43 P) (.node (ho44 P) (.node (ho344 P) .nil .nil) .nil) (.node (ho278 P) (.node (ho410 P) .nil .nil) .nil))) (.node (ho44 P) (.node (ho128 P) (.node (ho194 P) (.node (ho326 P) .nil .nil) (.node (ho43 P) .nil .nil)) (.node (ho260 P) (.node (ho43 P) .nil .nil) .nil)) (.node (ho160 P) (.node (ho43 P) (.node (ho43 P) .nil .nil) .nil) (.node (ho43 P) (.node (ho426 P) .nil .nil) .nil))))) (.node (ho46 P) (.node (ho43 P) (.node (ho76 P) (.node (ho108 P) (.node (ho43 P) (.node (ho306 P) .nil .nil) (.node (ho438 P) .nil .nil)) (.node (ho238 P) (.node (ho372 P) .nil .nil) .nil)) (.node (ho43 P) (.node (ho206 P) (.node (ho340 P) .nil .nil) .nil) (.node (ho44 P) (.node (ho43 P) .nil .nil) .nil))) (.node (ho92 P) (.node (ho44 P) (.node (ho190 P) (.node (ho43 P) .nil .nil) (.node (ho454 P) .nil .nil)) (.node (ho43 P) (.node (ho390 P) .nil .nil) .nil)) (.node (ho156 P) (.node (ho222 P) (.node (ho43 P) .nil .nil) .nil) (.node (ho43 P) (.node (ho422 P) .nil .nil) .nil)))) (.node (ho44 P) (.node (ho43 P) (.node (ho43 P) (.node (ho44 P) (.node (ho314 P) .nil .nil) (.node (ho446 P) .nil .nil)) (.node (ho246 P) (.node (ho380 P) .nil .nil) .nil)) (.node (ho148 P) (.node (ho214 P) (.node (ho43 P) .nil .nil) .nil) (.node (ho282 P) (.node (ho44 P) .nil .nil) .nil))) (.node (ho100 P) (.node (ho132 P) (.node (ho43 P) (.node (ho330 P) .nil .nil) .nil) (.node (ho75 P) (.node (ho398 P) .nil .nil) .nil)) (.node (ho164 P) (.node (ho43 P) (.node (ho364 P) .nil .nil) .nil) (.node (ho298 P) (.node (ho43 P) .nil .nil) .nil))))))))
noncomputable def ht651 (P : Params) : BT := (.node (boot_o_0 P) (.node (boot_o_1 P) (.node (ho608 P) (.node (boot_o_7 P) (.node (ho43 P) (.node (ho43 P) (.node (ho101 P) (.node (ho43 P) (.node (ho299 P) (.node (ho644 P) .nil .nil) .nil) (.node (ho431 P) .nil .nil)) (.node (ho44 P) (.node (ho365 P) .nil .nil) (.node (ho495 P) .nil .nil))) (.node (ho43 P) (.node (ho199 P) (.node (ho331 P) .nil .nil) (.node (ho44 P) .nil .nil)) (.node (ho267 P) (.node (ho43 P) .nil .nil) (.node (ho612 P) .nil .nil)))) (.node (ho85 P) (.node (ho44 P) (.node (ho183 P) (.node (ho43 P) .nil .nil) (.node (ho447 P) .nil .nil)) (.node (ho43 P) (.node (ho43 P) .nil .nil) (.node (ho43 P) .nil .nil))) (.node (ho149 P) (.node (ho215 P) (.node (ho349 P) .nil .nil) (.node (ho43 P) .nil .nil)) (.node (ho43 P) (.node (ho415 P) .nil .nil) (.node (ho628 P) .nil .nil))))) (.node (ho44 P) (.node (ho43 P) (.node (ho43 P) (.node (ho44 P) (.node (ho307 P) .nil .nil) (.node (ho439 P) .nil .nil)) (.node (ho239 P) (.node (ho373 P) .nil .nil) (.node (ho503 P) .nil .nil))) (.node (ho141 P) (.node (ho207 P) (.node (ho43 P) .nil .nil) (.node (ho471 P) .nil .nil)) (.node (ho275 P) (.node (ho44 P) .nil .nil) (.node (ho43 P) .nil .nil)))) (.node (ho93 P) (.node (ho125 P) (.node (ho43 P) (.node (ho44 P) .nil .nil) (.node (ho43 P) .nil .nil)) (.node (ho44 P) (.node (ho43 P) .nil .nil) (.node (ho519 P) .nil .nil))) (.node (ho157 P) (.node (ho43 P) (.node (ho357 P) .nil .nil) (.node (ho487 P) .nil .nil)) (.node (ho291 P) (.node (ho43 P) .nil .nil) (.node (ho636 P) .nil .nil)))))) (.node (ho43 P) (.node (ho55 P) (.node (ho71 P) (.node (ho43 P) (.node (ho171 P) (.node (ho303 P) (.node (ho43 P) .nil .nil) .nil) (.node (ho44 P) .nil .nil)) (.node (ho235 P) (.node (ho369 P) .nil .nil) (.node (ho499 P) .nil .nil))) (.node (ho43 P) (.node (ho44 P) (.node (ho335 P) .nil .nil) (.node (ho467 P) .nil .nil)) (.node (ho271 P) (.node (ho403 P) .nil .nil) (.node (ho616 P) .nil .nil)))) (.node (ho44 P) (.node (ho121 P) (.node (ho187 P) (.node (ho319 P) .nil .nil) (.node (ho43 P) .nil .nil)) (.node (ho253 P) (.node (ho387 P) .nil .nil) (.node (ho515 P) .nil .nil))) (.node (ho153 P) (.node (ho43 P) (.node (ho43 P) .nil .nil) (.node (ho43 P) .nil .nil)) (.node (ho43 P) (.node (ho419 P) .nil .nil) (.node (ho44 P) .nil .nil))))) (.node (ho63 P) (.node (ho43 P) (.node (ho113 P) (.node (ho179 P) (.node (ho43 P) .nil .nil) (.node (ho443 P) .nil .nil)) (.node (ho43 P) (.node (ho43 P) .nil .nil) (.node (ho43 P) .nil .nil))) (.node (ho44 P) (.node (ho211 P) (.node (ho43 P) .nil .nil) (.node (ho475 P) .nil .nil)) (.node (ho279 P) (.node (ho411 P) .nil .nil) (.node (ho43 P) .nil .nil)))) (.node (ho97 P) (.node (ho129 P) (.node (ho43 P) (.node (ho327 P) .nil .nil) (.node (ho459 P) .nil .nil)) (.node (ho261 P) (.node (ho395 P) .nil .nil) (.node (ho523 P) .nil .nil))) (.node (ho161 P) (.node (ho227 P) (.node (ho44 P) .nil .nil) (.node (ho44 P) .nil .nil)) (.node (ho44 P) (.node (ho43 P) .nil .nil) (.node (ho640 P) .nil .nil))))))) (.node (boot_o_5 P) (.node (boot_o_9 P) (.node (ho53 P) (.node (ho69 P) (.node (ho44 P) (.node (ho169 P) (.node (ho43 P) (.node (ho44 P) .nil .nil) .nil) (.node (ho433 P) .nil .nil)) (.node (ho43 P) (.node (ho43 P) .nil .nil) (.node (ho43 P) .nil .nil))) (.node (ho135 P) (.node (ho201 P) (.node (ho333 P) .nil .nil) (.node (ho43 P) .nil .nil)) (.node (ho269 P) (.node (ho401 P) .nil .nil) (.node (ho614 P) .nil .nil)))) (.node (ho87 P) (.node (ho43 P) (.node (ho185 P) (.node (ho317 P) .nil .nil) (.node (ho44 P) .nil .nil)) (.node (ho251 P) (.node (ho385 P) .nil .nil) (.node (ho513 P) .nil .nil))) (.node (ho43 P) (.node (ho44 P) (.node (ho351 P) .nil .nil) (.node (ho481 P) .nil .nil)) (.node (ho285 P) (.node (ho417 P) .nil .nil) (.node (ho630 P) .nil .nil))))) (.node (ho43 P) (.node (ho79 P) (.node (ho111 P) (.node (ho43 P) (.node (ho44 P) .nil .nil) (.node (ho43 P) .nil .nil)) (.node (ho44 P) (.node (ho44 P) .nil .nil) (.node (ho44 P) .nil .nil))) (.node (ho143 P) (.node (ho43 P) (.node (ho343 P) .nil .nil) (.node (ho473 P) .nil .nil)) (.node (ho277 P) (.node (ho43 P) .nil .nil) (.node (ho622 P) .nil .nil)))) (.node (ho43 P) (.node (ho127 P) (.node (ho193 P) (.node (ho43 P) .nil .nil) (.node (ho457 P) .nil .nil)) (.node (ho43 P) (.node (ho393 P) .nil .nil) (.node (ho521 P) .nil .nil))) (.node (ho159 P) (.node (ho225 P) (.node (ho359 P) .nil .nil) (.node (ho489 P) .nil .nil)) (.node (ho293 P) (.node (ho425 P) .nil .nil) (.node (ho43 P) .nil .nil)))))) (.node (ho45 P) (.node (ho57 P) (.node (ho75 P) (.node (ho107 P) (.node (ho173 P) (.node (ho305 P) (.node (ho650 P) .nil .nil) .nil) (.node (ho43 P) .nil .nil)) (.node (ho237 P) (.node (ho371 P) .nil .nil) (.node (ho501 P) .nil .nil))) (.node (ho139 P) (.node (ho43 P) (.node (ho44 P) .nil .nil) (.node (ho43 P) .nil .nil)) (.node (ho43 P) (.node (ho405 P) .nil .nil) (.node (ho44 P) .nil .nil)))) (.node (ho43 P) (.node (ho43 P) (.node (ho44 P) (.node (ho321 P) .nil .nil) (.node (ho453 P) .nil .nil)) (.node (ho255 P) (.node (ho389 P) .nil .nil) (.node (ho517 P) .nil .nil))) (.node (ho155 P) (.node (ho221 P) (.node (ho355 P) .nil .nil) (.node (ho485 P) .nil .nil)) (.node (ho289 P) (.node (ho44 P) .nil .nil) (.node (ho43 P) .nil .nil))))) (.node (ho43 P) (.node (ho83 P) (.node (ho115 P) (.node (ho43 P) (.node (ho313 P) .nil .nil) (.node (ho445 P) .nil .nil)) (.node (ho245 P) (.node (ho379 P) .nil .nil) (.node (ho509 P) .nil .nil))) (.node (ho43 P) (.node (ho213 P) (.node (ho347 P) .nil .nil) (.node (ho44 P) .nil .nil)) (.node (ho44 P) (.node (ho43 P) .nil .nil) (.node (ho626 P) .nil .nil)))) (.node (ho99 P) (.node (ho44 P) (.node (ho197 P) (.node (ho329 P) .nil .nil) (.node (ho461 P) .nil .nil)) (.node (ho43 P) (.node (ho397 P) .nil .nil) (.node (ho43 P) .nil .nil))) (.node (ho163 P) (.node (ho229 P) (.node (ho43 P) .nil .nil) (.node (ho43 P) .nil .nil)) (.node (ho43 P) (.node (ho429 P) .nil .nil) (.node (ho642 P) .nil .nil)))))))) (.node (boot_o_2 P) (.node (boot_o_4 P) (.node (boot_o_8 P) (.node (ho44 P) (.node (ho43 P) (.node (ho43 P) (.node (ho44 P) (.node (ho300 P) (.node (ho43 P) .nil .nil) .nil) (.node (ho432 P) .nil .nil)) (.node (ho232 P) (.node (ho366 P) .nil .nil) (.node (ho496 P) .nil .nil))) (.node (ho134 P) (.node (ho200 P) (.node (ho332 P) .nil .nil) (.node (ho464 P) .nil .nil)) (.node (ho43 P) (.node (ho44 P) .nil .nil) (.node (ho43 P) .nil .nil)))) (.node (ho86 P) (.node (ho118 P) (.node (ho43 P) (.node (ho44 P) .nil .nil) (.node (ho43 P) .nil .nil)) (.node (ho44 P) (.node (ho75 P) .nil .nil) (.node (ho44 P) .nil .nil))) (.node (ho150 P) (.node (ho43 P) (.node (ho350 P) .nil .nil) (.node (ho480 P) .nil .nil)) (.node (ho284 P) (.node (ho43 P) .nil .nil) (.node (ho629 P) .nil .nil))))) (.node (ho43 P) (.node (ho78 P) (.node (ho44 P) (.node (ho176 P) (.node (ho43 P) .nil .nil) (.node (ho440 P) .nil .nil)) (.node (ho43 P) (.node (ho43 P) .nil .nil) (.node (ho43 P) .nil .nil))) (.node (ho142 P) (.node (ho208 P) (.node (ho342 P) .nil .nil) (.node (ho43 P) .nil .nil)) (.node (ho43 P) (.node (ho408 P) .nil .nil) (.node (ho621 P) .nil .nil)))) (.node (ho94 P) (.node (ho43 P) (.node (ho192 P) (.node (ho324 P) .nil .nil) (.node (ho44 P) .nil .nil)) (.node (ho258 P) (.node (ho44 P) .nil .nil) (.node (ho520 P) .nil .nil))) (.node (ho158 P) (.node (ho44 P) (.node (ho358 P) .nil .nil) (.node (ho488 P) .nil .nil)) (.node (ho292 P) (.node (ho424 P) .nil .nil) (.node (ho637 P) .nil .nil)))))) (.node (ho609 P) (.node (ho56 P) (.node (ho43 P) (.node (ho106 P) (.node (ho172 P) (.node (ho43 P) (.node (ho649 P) .nil .nil) .nil) (.node (ho436 P) .nil .nil)) (.node (ho236 P) (.node (ho43 P) .nil .nil) (.node (ho43 P) .nil .nil))) (.node (ho44 P) (.node (ho204 P) (.node (ho43 P) .nil .nil) (.node (ho468 P) .nil .nil)) (.node (ho272 P) (.node (ho404 P) .nil .nil) (.node (ho43 P) .nil .nil)))) (.node (ho90 P) (.node (ho122 P) (.node (ho43 P) (.node (ho320 P) .nil .nil) (.node (ho452 P) .nil .nil)) (.node (ho254 P) (.node (ho388 P) .nil .nil) (.node (ho516 P) .nil .nil))) (.node (ho43 P) (.node (ho220 P) (.node (ho44 P) .nil .nil) (.node (ho44 P) .nil .nil)) (.node (ho44 P) (.node (ho43 P) .nil .nil) (.node (ho633 P) .nil .nil))))) (.node (ho64 P) (.node (ho44 P) (.node (ho114 P) (.node (ho180 P) (.node (ho312 P) .nil .nil) (.node (ho43 P) .nil .nil)) (.node (ho244 P) (.node (ho378 P) .nil .nil) (.node (ho508 P) .nil .nil))) (.node (ho146 P) (.node (ho43 P) (.node (ho44 P) .nil .nil) (.node (ho43 P) .nil .nil)) (.node (ho43 P) (.node (ho412 P) .nil .nil) (.node (ho44 P) .nil .nil)))) (.node (ho43 P) (.node (ho43 P) (.node (ho44 P) (.node (ho328 P) .nil .nil) (.node (ho460 P) .nil .nil)) (.node (ho262 P) (.node (ho396 P) .nil .nil) (.node (ho524 P) .nil .nil))) (.node (ho162 P) (.node (ho228 P) (.node (ho362 P) .nil .nil) (.node (ho492 P) .nil .nil)) (.node (ho296 P) (.node (ho44 P) .nil .nil) (.node (ho43 P) .nil .nil))))))) (.node (boot_o_6 P) (.node (boot_o_10 P) (.node (ho43 P) (.node (ho70 P) (.node (ho104 P) (.node (ho43 P) (.node (ho44 P) (.node (ho647 P) .nil .nil) .nil) (.node (ho43 P) .nil .nil)) (.node (ho234 P) (.node (ho44 P) .nil .nil) (.node (ho44 P) .nil .nil))) (.node (ho136 P) (.node (ho43 P) (.node (ho334 P) .nil .nil) (.node (ho466 P) .nil .nil)) (.node (ho270 P) (.node (ho43 P) .nil .nil) (.node (ho615 P) .nil .nil)))) (.node (ho43 P) (.node (ho120 P) (.node (ho186 P) (.node (ho43 P) .nil .nil) (.node (ho450 P) .nil .nil)) (.node (ho43 P) (.node (ho43 P) .nil .nil) (.node (ho43 P) .nil .nil))) (.node (ho44 P) (.node (ho218 P) (.node (ho272 P) .nil .nil) (.node (ho482 P) .nil .nil)) (.node (ho286 P) (.node (ho418 P) .nil .nil) (.node (ho43 P) .nil .nil))))) (.node (ho62 P) (.node (ho80 P) (.node (ho43 P) (.node (ho178 P) (.node (ho310 P) .nil .nil) (.node (ho44 P) .nil .nil)) (.node (ho43 P) (.node (ho376 P) .nil .nil) (.node (ho506 P) .nil .nil))) (.node (ho43 P) (.node (ho44 P) (.node (ho344 P) .nil .nil) (.node (ho474 P) .nil .nil)) (.node (ho278 P) (.node (ho410 P) .nil .nil) (.node (ho623 P) .nil .nil)))) (.node (ho44 P) (.node (ho128 P) (.node (ho194 P) (.node (ho326 P) .nil .nil) (.node (ho43 P) .nil .nil)) (.node (ho260 P) (.node (ho43 P) .nil .nil) (.node (ho522 P) .nil .nil))) (.node (ho160 P) (.node (ho43 P) (.node (ho43 P) .nil .nil) (.node (ho43 P) .nil .nil)) (.node (ho43 P) (.node (ho426 P) .nil .nil) (.node (ho44 P) .nil .nil)))))) (.node (ho46 P) (.node (ho43 P) (.node (ho76 P) (.node (ho108 P) (.node (ho43 P) (.node (ho306 P) (.node (ho651 P) .nil .nil) .nil) (.node (ho438 P) .nil .nil)) (.node (ho238 P) (.node (ho372 P) .nil .nil) (.node (ho502 P) .nil .nil))) (.node (ho43 P) (.node (ho206 P) (.node (ho340 P) .nil .nil) (.node (ho44 P) .nil .nil)) (.node (ho44 P) (.node (ho43 P) .nil .nil) (.node (ho619 P) .nil .nil)))) (.node (ho92 P) (.node (ho44 P) (.node (ho190 P) (.node (ho43 P) .nil .nil) (.node (ho454 P) .nil .nil)) (.node (ho43 P) (.node (ho390 P) .nil .nil) (.node (ho518 P) .nil .nil))) (.node (ho156 P) (.node (ho222 P) (.node (ho43 P) .nil .nil) (.node (ho43 P) .nil .nil)) (.node (ho43 P) (.node (ho422 P) .nil .nil) (.node (ho635 P) .nil .nil))))) (.node (ho44 P) (.node (ho43 P) (.node (ho43 P) (.node (ho44 P) (.node (ho314 P) .nil .nil) (.node (ho446 P) .nil .nil)) (.node (ho246 P) (.node (ho380 P) .nil .nil) (.node (ho510 P) .nil .nil))) (.node (ho148 P) (.node (ho214 P) (.node (ho43 P) .nil .nil) (.node (ho478 P) .nil .nil)) (.node (ho282 P) (.node (ho44 P) .nil .nil) (.node (ho43 P) .nil .nil)))) (.node (ho100 P) (.node (ho132 P) (.node (ho43 P) (.node (ho330 P) .nil .nil) (.node (ho43 P) .nil .nil)) (.node (ho75 P) (.node (ho398 P) .nil .nil) (.node (ho44 P) .nil .nil))) (.node (ho164 P) (.node (ho43 P) (.node (ho364 P) .nil .nil) (.node (ho494 P) .nil .nil)) (.node (ho298 P) (.node (ho43 P) .nil .nil) (.node (ho643 P) .nil .nil)))))))))
noncomputable def hh652 (P : Params) : Heap := ⟨⟨[(boot_o_0 P), (boot_o_1 P), (boot_o_2 P), (ho608 P), (boot_o_4 P), (boot_o_5 P), (boot_o_6 P), (boot_o_7 P), (boot_o_8 P), (boot_o_9 P), (boot_o_10 P), (ho43 P), (ho609 P), (ho45 P), (ho46 P), (ho43 P), (ho44 P), (ho53 P), (ho43 P), (ho55 P), (ho56 P), (ho57 P), (ho43 P), (ho44 P), (ho43 P), (ho43 P), (ho62 P), (ho63 P), (ho64 P), (ho43 P), (ho44 P), (ho43 P), (ho43 P), (ho69 P), (ho70 P), (ho71 P), (ho43 P), (ho75 P), (ho76 P), (ho43 P), (ho78 P), (ho79 P), (ho80 P), (ho43 P), (ho44 P), (ho83 P), (ho43 P), (ho85 P), (ho86 P), (ho87 P), (ho43 P), (ho44 P), (ho90 P), (ho43 P), (ho92 P), (ho93 P), (ho94 P), (ho43 P), (ho44 P), (ho97 P), (ho43 P), (ho99 P), (ho100 P), (ho101 P), (ho43 P), (ho44 P), (ho104 P), (ho43 P), (ho106 P), (ho107 P), (ho108 P), (ho43 P), (ho44 P), (ho111 P), (ho43 P), (ho113 P), (ho114 P), (ho115 P), (ho43 P), (ho44 P), (ho118 P), (ho43 P), (ho120 P), (ho121 P), (ho122 P), (ho43 P), (ho44 P), (ho125 P), (ho43 P), (ho127 P), (ho128 P), (ho129 P), (ho43 P), (ho44 P), (ho132 P), (ho43 P), (ho134 P), (ho135 P), (ho136 P), (ho43 P), (ho44 P), (ho139 P), (ho43 P), (ho141 P), (ho142 P), (ho143 P), (ho43 P), (ho44 P), (ho146 P), (ho43 P), (ho148 P), (ho149 P), (ho150 P), (ho43 P), (ho44 P), (ho153 P), (ho43 P), (ho155 P), (ho156 P), (ho157 P), (ho158 P), (ho159 P), (ho160 P), (ho161 P), (ho162 P), (ho163 P), (ho164 P), (ho43 P), (ho44 P), (ho169 P), (ho43 P), (ho171 P), (ho172 P), (ho173 P), (ho43 P), (ho44 P), (ho176 P), (ho43 P), (ho178 P), (ho179 P), (ho180 P), (ho43 P), (ho44 P), (ho183 P), (ho43 P), (ho185 P), (ho186 P), (ho187 P), (ho43 P), (ho44 P), (ho190 P), (ho43 P), (ho192 P), (ho193 P), (ho194 P), (ho43 P), (ho44 P), (ho197 P), (ho43 P), (ho199 P), (ho200 P), (ho201 P), (ho43 P), (ho44 P), (ho204 P), (ho43 P), (ho206 P), (ho207 P), (ho208 P), (ho43 P), (ho44 P), (ho211 P), (ho43 P), (ho213 P), (ho214 P), (ho215 P), (ho43 P), (ho44 P), (ho218 P), (ho43 P), (ho220 P), (ho221 P), (ho222 P), (ho43 P), (ho44 P), (ho225 P), (ho43 P), (ho227 P), (ho228 P), (ho229 P), (ho43 P), (ho44 P), (ho232 P), (ho43 P), (ho234 P), (ho235 P), (ho236 P), (ho237 P), (ho238 P), (ho239 P), (ho43 P), (ho44 P), (ho43 P), (ho43 P), (ho244 P), (ho245 P), (ho246 P), (ho43 P), (ho44 P), (ho251 P), (ho43 P), (ho253 P), (ho254 P), (ho255 P), (ho43 P), (ho44 P), (ho258 P), (ho43 P), (ho260 P), (ho261 P), (ho262 P), (ho43 P), (ho75 P), (ho267 P), (ho43 P), (ho269 P), (ho270 P), (ho271 P), (ho272 P), (ho43 P), (ho44 P), (ho275 P), (ho43 P), (ho277 P), (ho278 P), (ho279 P), (ho43 P), (ho44 P), (ho282 P), (ho43 P), (ho284 P), (ho285 P), (ho286 P), (ho43 P), (ho44 P), (ho289 P), (ho43 P), (ho291 P), (ho292 P), (ho293 P), (ho43 P), (ho44 P), (ho296 P), (ho43 P), (ho298 P), (ho299 P), (ho300 P), (ho43 P), (ho44 P), (ho303 P), (ho43 P), (ho305 P), (ho306 P), (ho307 P), (ho43 P), (ho44 P), (ho310 P), (ho43 P), (ho312 P), (ho313 P), (ho314 P), (ho43 P), (ho44 P), (ho317 P), (ho43 P), (ho319 P), (ho320 P), (ho321 P), (ho43 P), (ho44 P), (ho324 P), (ho43 P), (ho326 P), (ho327 P), (ho328 P), (ho329 P), (ho330 P), (ho331 P), (ho332 P), (ho333 P), (ho334 P), (ho335 P), (ho43 P), (ho44 P), (ho340 P), (ho43 P), (ho342 P), (ho343 P), (ho344 P), (ho43 P), (ho44 P), (ho347 P), (ho43 P), (ho349 P), (ho350 P), (ho351 P), (ho272 P), (ho43 P), (ho44 P), (ho355 P), (ho43 P), (ho357 P), (ho358 P), (ho359 P), (ho43 P), (ho44 P), (ho362 P), (ho43 P), (ho364 P), (ho365 P), (ho366 P), (ho43 P), (ho44 P), (ho369 P), (ho43 P), (ho371 P), (ho372 P), (ho373 P), (ho43 P), (ho44 P), (ho376 P), (ho43 P), (ho378 P), (ho379 P), (ho380 P), (ho43 P), (ho75 P), (ho385 P), (ho43 P), (ho387 P), (ho388 P), (ho389 P), (ho390 P), (ho43 P), (ho44 P), (ho393 P), (ho43 P), (ho395 P), (ho396 P), (ho397 P), (ho398 P), (ho43 P), (ho44 P), (ho401 P), (ho43 P), (ho403 P), (ho404 P), (ho405 P), (ho43 P), (ho44 P), (ho408 P), (ho43 P), (ho410 P), (ho411 P), (ho412 P), (ho43 P), (ho44 P), (ho415 P), (ho43 P), (ho417 P), (ho418 P), (ho419 P), (ho43 P), (ho44 P), (ho422 P), (ho43 P), (ho424 P), (ho425 P), (ho426 P), (ho43 P), (ho44 P), (ho429 P), (ho43 P), (ho431 P), (ho432 P), (ho433 P), (ho43 P), (ho44 P), (ho436 P), (ho43 P), (ho438 P), (ho439 P), (ho440 P), (ho43 P), (ho44 P), (ho443 P), (ho43 P), (ho445 P), (ho446 P), (ho447 P), (ho43 P), (ho44 P), (ho450 P), (ho43 P), (ho452 P), (ho453 P), (ho454 P), (ho43 P), (ho44 P), (ho457 P), (ho43 P), (ho459 P), (ho460 P), (ho461 P), (ho43 P), (ho44 P), (ho464 P), (ho43 P), (ho466 P), (ho467 P), (ho468 P), (ho43 P), (ho44 P), (ho471 P), (ho43 P), (ho473 P), (ho474 P), (ho475 P), (ho43 P), (ho44 P), (ho478 P), (ho43 P), (ho480 P), (ho481 P), (ho482 P), (ho43 P), (ho44 P), (ho485 P), (ho43 P), (ho487 P), (ho488 P), (ho489 P), (ho43 P), (ho44 P), (ho492 P), (ho43 P), (ho494 P), (ho495 P), (ho496 P), (ho43 P), (ho44 P), (ho499 P), (ho43 P), (ho501 P), (ho502 P), (ho503 P), (ho43 P), (ho44 P), (ho506 P), (ho43 P), (ho508 P), (ho509 P), (ho510 P), (ho43 P), (ho44 P), (ho513 P), (ho43 P), (ho515 P), (ho516 P), (ho517 P), (ho518 P), (ho519 P), (ho520 P), (ho521 P), (ho522 P), (ho523 P), (ho524 P), (ho43 P), (ho44 P), (ho612 P), (ho43 P), (ho614 P), (ho615 P), (ho616 P), (ho43 P), (ho44 P), (ho619 P), (ho43 P), (ho621 P), (ho622 P), (ho623 P), (ho43 P), (ho44 P), (ho626 P), (ho43 P), (ho628 P), (ho629 P), (ho630 P), (ho43 P), (ho44 P), (ho633 P), (ho43 P), (ho635 P), (ho636 P), (ho637 P), (ho43 P), (ho44 P), (ho640 P), (ho43 P), (ho642 P), (ho643 P), (ho644 P), (ho43 P), (ho44 P), (ho647 P), (ho43 P), (ho649 P), (ho650 P), (ho651 P)]⟩, ⟨[], [], [], 0, [], [], false, (#[]), [], 0, false, false, false, (0 : Int), [(2000 : Int), (10 : Int), (10 : Int)], false, 0, true, [], [], 0, false⟩⟩
noncomputable def hs49 : List Stmt := ((behindTheImports PySem.Challenge.rw_sa0155_03.row.toRowW.1).drop 0).take 11
noncomputable def hs72 : List Stmt := ((behindTheImports PySem.Challenge.rw_sa0155_03.row.toRowW.1).drop 11).take 1
noncomputable def hs165 : List Stmt := ((behindTheImports PySem.Challenge.rw_sa0155_03.row.toRowW.1).drop 12).take 18
noncomputable def hs247 : List Stmt := ((behindTheImports PySem.Challenge.rw_sa0155_03.row.toRowW.1).drop 30).take 2
noncomputable def hs263 : List Stmt := ((behindTheImports PySem.Challenge.rw_sa0155_03.row.toRowW.1).drop 32).take 1
noncomputable def hs336 : List Stmt := ((behindTheImports PySem.Challenge.rw_sa0155_03.row.toRowW.1).drop 33).take 9
noncomputable def hs381 : List Stmt := ((behindTheImports PySem.Challenge.rw_sa0155_03.row.toRowW.1).drop 42).take 1
noncomputable def hs608 : List Stmt := ((behindTheImports PySem.Challenge.rw_sa0155_03.row.toRowW.1).drop 43).take 7
noncomputable def hv : Program := { PySem.Challenge.rw_sa0155_03.row.toRowW.1 with main := { PySem.Challenge.rw_sa0155_03.row.toRowW.1.main with body := [0, 2, 3, 4, 5, 6, 7, 8, 9, 10, 11, 13, 15, 16, 17, 18, 19, 20, 21, 22, 23, 25, 26, 27, 28, 29, 30, 31, 32, 34, 35, 36, 37, 39, 40, 41, 42, 44, 45, 46, 47, 48, 49].map (nS B0) } }
noncomputable def hK (P : Params) : Frag := [(2, (boot_o_2 P)), (3, (ho608 P)), (15, (ho43 P)), (17, (ho53 P)), (18, (ho43 P)), (20, (ho56 P)), (21, (ho57 P)), (22, (ho43 P)), (24, (ho43 P)), (25, (ho43 P)), (27, (ho63 P)), (28, (ho64 P)), (29, (ho43 P)), (31, (ho43 P)), (32, (ho43 P)), (34, (ho70 P)), (35, (ho71 P)), (43, (ho43 P)), (45, (ho83 P)), (46, (ho43 P)), (48, (ho86 P)), (49, (ho87 P)), (50, (ho43 P)), (52, (ho90 P)), (53, (ho43 P)), (55, (ho93 P)), (56, (ho94 P)), (57, (ho43 P)), (59, (ho97 P)), (60, (ho43 P)), (62, (ho100 P)), (63, (ho101 P)), (64, (ho43 P)), (66, (ho104 P)), (67, (ho43 P)), (69, (ho107 P)), (70, (ho108 P)), (71, (ho43 P)), (73, (ho111 P)), (74, (ho43 P)), (76, (ho114 P)), (77, (ho115 P)), (78, (ho43 P)), (80, (ho118 P)), (81, (ho43 P)), (83, (ho121 P)), (84, (ho122 P)), (85, (ho43 P)), (87, (ho125 P)), (88, (ho43 P)), (90, (ho128 P)), (91, (ho129 P)), (92, (ho43 P)), (94, (ho132 P)), (95, (ho43 P)), (97, (ho135 P)), (98, (ho136 P)), (99, (ho43 P)), (101, (ho139 P)), (102, (ho43 P)), (104, (ho142 P)), (105, (ho143 P)), (106, (ho43 P)), (108, (ho146 P)), (109, (ho43 P)), (111, (ho149 P)), (112, (ho150 P)), (113, (ho43 P)), (115, (ho153 P)), (116, (ho43 P)), (118, (ho156 P)), (119, (ho157 P)), (120, (ho158 P)), (121, (ho159 P)), (122, (ho160 P)), (123, (ho161 P)), (124, (ho162 P)), (127, (ho43 P)), (129, (ho169 P)), (130, (ho43 P)), (132, (ho172 P)), (133, (ho173 P)), (134, (ho43 P)), (136, (ho176 P)), (137, (ho43 P)), (139, (ho179 P)), (140, (ho180 P)), (141, (ho43 P)), (143, (ho183 P)), (144, (ho43 P)), (146, (ho186 P)), (147, (ho187 P)), (148, (ho43 P)), (150, (ho190 P)), (151, (ho43 P)), (153, (ho193 P)), (154, (ho194 P)), (155, (ho43 P)), (157, (ho197 P)), (158, (ho43 P)), (160, (ho200 P)), (161, (ho201 P)), (162, (ho43 P)), (164, (ho204 P)), (165, (ho43 P)), (167, (ho207 P)), (168, (ho208 P)), (169, (ho43 P)), (171, (ho211 P)), (172, (ho43 P)), (174, (ho214 P)), (175, (ho215 P)), (176, (ho43 P)), (178, (ho218 P)), (179, (ho43 P)), (181, (ho221 P)), (182, (ho222 P)), (183, (ho43 P)), (185, (ho225 P)), (186, (ho43 P)), (188, (ho228 P)), (189, (ho229 P)), (190, (ho43 P)), (192, (ho232 P)), (193, (ho43 P)), (195, (ho235 P)), (196, (ho236 P)), (197, (ho237 P)), (198, (ho238 P)), (199, (ho239 P)), (200, (ho43 P)), (202, (ho43 P)), (203, (ho43 P)), (205, (ho245 P)), (206, (ho246 P)), (207, (ho43 P)), (209, (ho251 P)), (210, (ho43 P)), (212, (ho254 P)), (213, (ho255 P)), (214, (ho43 P)), (216, (ho258 P)), (217, (ho43 P)), (219, (ho261 P)), (220, (ho262 P)), (228, (ho272 P)), (229, (ho43 P)), (231, (ho275 P)), (232, (ho43 P)), (234, (ho278 P)), (235, (ho279 P)), (236, (ho43 P)), (238, (ho282 P)), (239, (ho43 P)), (241, (ho285 P)), (242, (ho286 P)), (243, (ho43 P)), (245, (ho289 P)), (246, (ho43 P)), (248, (ho292 P)), (249, (ho293 P)), (250, (ho43 P)), (252, (ho296 P)), (253, (ho43 P)), (255, (ho299 P)), (256, (ho300 P)), (257, (ho43 P)), (259, (ho303 P)), (260, (ho43 P)), (262, (ho306 P)), (263, (ho307 P)), (264, (ho43 P)), (266, (ho310 P)), (267, (ho43 P)), (269, (ho313 P)), (270, (ho314 P)), (271, (ho43 P)), (273, (ho317 P)), (274, (ho43 P)), (276, (ho320 P)), (277, (ho321 P)), (278, (ho43 P)), (280, (ho324 P)), (281, (ho43 P)), (283, (ho327 P)), (284, (ho328 P)), (285, (ho329 P)), (286, (ho330 P)), (287, (ho331 P)), (288, (ho332 P)), (289, (ho333 P)), (292, (ho43 P)), (294, (ho340 P)), (295, (ho43 P)), (297, (ho343 P)), (298, (ho344 P)), (299, (ho43 P)), (301, (ho347 P)), (302, (ho43 P)), (304, (ho350 P)), (305, (ho351 P)), (306, (ho272 P)), (307, (ho43 P)), (309, (ho355 P)), (310, (ho43 P)), (312, (ho358 P)), (313, (ho359 P)), (314, (ho43 P)), (316, (ho362 P)), (317, (ho43 P)), (319, (ho365 P)), (320, (ho366 P)), (321, (ho43 P)), (323, (ho369 P)), (324, (ho43 P)), (326, (ho372 P)), (327, (ho373 P)), (328, (ho43 P)), (330, (ho376 P)), (331, (ho43 P)), (333, (ho379 P)), (334, (ho380 P)), (342, (ho390 P)), (343, (ho43 P)), (345, (ho393 P)), (346, (ho43 P)), (348, (ho396 P)), (349, (ho397 P)), (350, (ho398 P)), (351, (ho43 P)), (353, (ho401 P)), (354, (ho43 P)), (356, (ho404 P)), (357, (ho405 P)), (358, (ho43 P)), (360, (ho408 P)), (361, (ho43 P)), (363, (ho411 P)), (364, (ho412 P)), (365, (ho43 P)), (367, (ho415 P)), (368, (ho43 P)), (370, (ho418 P)), (371, (ho419 P)), (372, (ho43 P)), (374, (ho422 P)), (375, (ho43 P)), (377, (ho425 P)), (378, (ho426 P)), (379, (ho43 P)), (381, (ho429 P)), (382, (ho43 P)), (384, (ho432 P)), (385, (ho433 P)), (386, (ho43 P)), (388, (ho436 P)), (389, (ho43 P)), (391, (ho439 P)), (392, (ho440 P)), (393, (ho43 P)), (395, (ho443 P)), (396, (ho43 P)), (398, (ho446 P)), (399, (ho447 P)), (400, (ho43 P)), (402, (ho450 P)), (403, (ho43 P)), (405, (ho453 P)), (406, (ho454 P)), (407, (ho43 P)), (409, (ho457 P)), (410, (ho43 P)), (412, (ho460 P)), (413, (ho461 P)), (414, (ho43 P)), (416, (ho464 P)), (417, (ho43 P)), (419, (ho467 P)), (420, (ho468 P)), (421, (ho43 P)), (423, (ho471 P)), (424, (ho43 P)), (426, (ho474 P)), (427, (ho475 P)), (428, (ho43 P)), (430, (ho478 P)), (431, (ho43 P)), (433, (ho481 P)), (434, (ho482 P)), (435, (ho43 P)), (437, (ho485 P)), (438, (ho43 P)), (440, (ho488 P)), (441, (ho489 P)), (442, (ho43 P)), (444, (ho492 P)), (445, (ho43 P)), (447, (ho495 P)), (448, (ho496 P)), (449, (ho43 P)), (451, (ho499 P)), (452, (ho43 P)), (454, (ho502 P)), (455, (ho503 P)), (456, (ho43 P)), (458, (ho506 P)), (459, (ho43 P)), (461, (ho509 P)), (462, (ho510 P)), (463, (ho43 P)), (465, (ho513 P)), (466, (ho43 P)), (468, (ho516 P)), (469, (ho517 P)), (470, (ho518 P)), (471, (ho519 P)), (472, (ho520 P)), (473, (ho521 P)), (474, (ho522 P)), (477, (ho43 P)), (479, (ho612 P)), (480, (ho43 P)), (482, (ho615 P)), (483, (ho616 P)), (484, (ho43 P)), (486, (ho619 P)), (487, (ho43 P)), (489, (ho622 P)), (490, (ho623 P)), (491, (ho43 P)), (493, (ho626 P)), (494, (ho43 P)), (496, (ho629 P)), (497, (ho630 P)), (498, (ho43 P)), (500, (ho633 P)), (501, (ho43 P)), (503, (ho636 P)), (504, (ho637 P)), (505, (ho43 P)), (507, (ho640 P)), (508, (ho43 P)), (510, (ho643 P)), (511, (ho644 P)), (512, (ho43 P)), (514, (ho647 P)), (515, (ho43 P)), (517, (ho650 P)), (518, (ho651 P))]
noncomputable def hKa : List Addr := [2, 3, 15, 17, 18, 20, 21, 22, 24, 25, 27, 28, 29, 31, 32, 34, 35, 43, 45, 46, 48, 49, 50, 52, 53, 55, 56, 57, 59, 60, 62, 63, 64, 66, 67, 69, 70, 71, 73, 74, 76, 77, 78, 80, 81, 83, 84, 85, 87, 88, 90, 91, 92, 94, 95, 97, 98, 99, 101, 102, 104, 105, 106, 108, 109, 111, 112, 113, 115, 116, 118, 119, 120, 121, 122, 123, 124, 127, 129, 130, 132, 133, 134, 136, 137, 139, 140, 141, 143, 144, 146, 147, 148, 150, 151, 153, 154, 155, 157, 158, 160, 161, 162, 164, 165, 167, 168, 169, 171, 172, 174, 175, 176, 178, 179, 181, 182, 183, 185, 186, 188, 189, 190, 192, 193, 195, 196, 197, 198, 199, 200, 202, 203, 205, 206, 207, 209, 210, 212, 213, 214, 216, 217, 219, 220, 228, 229, 231, 232, 234, 235, 236, 238, 239, 241, 242, 243, 245, 246, 248, 249, 250, 252, 253, 255, 256, 257, 259, 260, 262, 263, 264, 266, 267, 269, 270, 271, 273, 274, 276, 277, 278, 280, 281, 283, 284, 285, 286, 287, 288, 289, 292, 294, 295, 297, 298, 299, 301, 302, 304, 305, 306, 307, 309, 310, 312, 313, 314, 316, 317, 319, 320, 321, 323, 324, 326, 327, 328, 330, 331, 333, 334, 342, 343, 345, 346, 348, 349, 350, 351, 353, 354, 356, 357, 358, 360, 361, 363, 364, 365, 367, 368, 370, 371, 372, 374, 375, 377, 378, 379, 381, 382, 384, 385, 386, 388, 389, 391, 392, 393, 395, 396, 398, 399, 400, 402, 403, 405, 406, 407, 409, 410, 412, 413, 414, 416, 417, 419, 420, 421, 423, 424, 426, 427, 428, 430, 431, 433, 434, 435, 437, 438, 440, 441, 442, 444, 445, 447, 448, 449, 451, 452, 454, 455, 456, 458, 459, 461, 462, 463, 465, 466, 468, 469, 470, 471, 472, 473, 474, 477, 479, 480, 482, 483, 484, 486, 487, 489, 490, 491, 493, 494, 496, 497, 498, 500, 501, 503, 504, 505, 507, 508, 510, 511, 512, 514, 515, 517, 518]
theorem hp47 : (∀ (x0 : World), ((fun (x1 : OsState) => (topGo treeTable PR x0 11 (some (.ref 6)) 12 ⟨(boot_heap (World.params x0)), ⟨[]⟩, boot_drawn, boot_toks, x1⟩ (topStub PR))) = (fun (x1 : OsState) => (some (⟨(hh46 (World.params x0)), ⟨[]⟩, ⟨0, 0, 0, 0⟩, 187, x1⟩, ⟨(denote treeTable (.body (behindTheImports PR) he41)), (.body (behindTheImports PR) he41), ⟨0, 0, 0, 0⟩, [(topFrame ⟨0, 0, 0, 0⟩)]⟩))))) := by
  intro w
  try rw [PySem.W.Fast.te15667345088766844465]
  try rw [PySem.W.Fast.te14364793385576792824]
  try rw [PySem.W.Fast.te2368527892694137696]
  try rw [PySem.W.Fast.te11892475500146522536]
  kernel_rfl
theorem hp49 : (∀ (x0 : World), ((fun (x1 : OsState) => (segRun treeTable PR x0 11 (some (.ref 6)) 1 1 ⟨(hh46 (World.params x0)), ⟨[]⟩, ⟨0, 0, 0, 0⟩, 187, x1⟩ (blockOf (behindTheImports PR) he41 (.body (behindTheImports PR) he41) ⟨0, 0, 0, 0⟩ [(topFrame ⟨0, 0, 0, 0⟩)]))) = (fun (x1 : OsState) => (some (.next, ((SharedT.abs ⟨(ht47 (World.params x0)), 15, ⟨[], [], [], 0, [], [], false, (#[]), [], 0, false, false, false, (0 : Int), [(2000 : Int), (10 : Int), (10 : Int)], false, 0, true, [], [], 0, false⟩, ⟨[]⟩, ⟨0, 0, 0, 0⟩, 187, x1⟩), ((.body (behindTheImports PR) he41), ⟨0, 0, 0, 0⟩))))))) := by
  intro w
  try rw [PySem.W.Fast.te14374325043358763698]
  try rw [PySem.W.Fast.te14364793385576792824]
  try rw [PySem.W.Fast.te2368527892694137696]
  kernel_rfl
theorem hp72 : (∀ (x0 : World), ((fun (x1 : OsState) => (segRunT treeTable PR x0 11 (some (.ref 6)) 1 158 ⟨(ht47 (World.params x0)), 15, ⟨[], [], [], 0, [], [], false, (#[]), [], 0, false, false, false, (0 : Int), [(2000 : Int), (10 : Int), (10 : Int)], false, 0, true, [], [], 0, false⟩, ⟨[]⟩, ⟨0, 0, 0, 0⟩, 187, x1⟩ (piecesOf hs49 he41 (.body (behindTheImports PR) he41) ⟨0, 0, 0, 0⟩ [(topFrame ⟨0, 0, 0, 0⟩)]))) = (fun (x1 : OsState) => (some (.next, (⟨(ht71 (World.params x0)), 36, ⟨[], [], [], 0, [], [], false, (#[]), [], 0, false, false, false, (0 : Int), [(2000 : Int), (10 : Int), (10 : Int)], false, 0, true, [], [], 0, false⟩, ⟨[]⟩, ⟨0, 0, 0, 0⟩, 222, x1⟩, ((.body (behindTheImports PR) he41), ⟨14, 0, 15, 389⟩))))))) := by
  intro w
  try rw [PySem.W.Fast.te10110043849684766642]
  try rw [PySem.W.Fast.te14364793385576792824]
  try rw [PySem.W.Fast.te2368527892694137696]
  kernel_rfl
theorem hp165 : (∀ (x0 : World), ((fun (x1 : OsState) => (segRunT treeTable PR x0 11 (some (.ref 6)) 1 553 ⟨(ht71 (World.params x0)), 36, ⟨[], [], [], 0, [], [], false, (#[]), [], 0, false, false, false, (0 : Int), [(2000 : Int), (10 : Int), (10 : Int)], false, 0, true, [], [], 0, false⟩, ⟨[]⟩, ⟨0, 0, 0, 0⟩, 222, x1⟩ (piecesOf hs72 he41 (.body (behindTheImports PR) he41) ⟨14, 0, 15, 389⟩ [(topFrame ⟨0, 0, 0, 0⟩)]))) = (fun (x1 : OsState) => (some (.next, (⟨(ht164 (World.params x0)), 127, ⟨[], [], [], 0, [], [], false, (#[]), [], 0, false, false, false, (0 : Int), [(2000 : Int), (10 : Int), (10 : Int)], false, 0, true, [], [], 0, false⟩, ⟨[]⟩, ⟨0, 0, 0, 0⟩, 341, x1⟩, ((.body (behindTheImports PR) he41), ⟨16, 0, 69, 16⟩))))))) := by
  intro w
  try rw [PySem.W.Fast.te10110043849684766642]
  try rw [PySem.W.Fast.te14364793385576792824]
  try rw [PySem.W.Fast.te2368527892694137696]
  kernel_rfl
theorem hp247 : (∀ (x0 : World), ((fun (x1 : OsState) => (segRunT treeTable PR x0 11 (some (.ref 6)) 1 398 ⟨(ht164 (World.params x0)), 127, ⟨[], [], [], 0, [], [], false, (#[]), [], 0, false, false, false, (0 : Int), [(2000 : Int), (10 : Int), (10 : Int)], false, 0, true, [], [], 0, false⟩, ⟨[]⟩, ⟨0, 0, 0, 0⟩, 341, x1⟩ (piecesOf hs165 he41 (.body (behindTheImports PR) he41) ⟨16, 0, 69, 16⟩ [(topFrame ⟨0, 0, 0, 0⟩)]))) = (fun (x1 : OsState) => (some (.next, (⟨(ht246 (World.params x0)), 207, ⟨[], [], [], 0, [], [], false, (#[]), [], 0, false, false, false, (0 : Int), [(2000 : Int), (10 : Int), (10 : Int)], false, 0, true, [], [], 0, false⟩, ⟨[]⟩, ⟨0, 0, 0, 0⟩, 441, x1⟩, ((.body (behindTheImports PR) he41), ⟨123, 0, 124, 502⟩))))))) := by
  intro w
  try rw [PySem.W.Fast.te10110043849684766642]
  try rw [PySem.W.Fast.te14364793385576792824]
  try rw [PySem.W.Fast.te2368527892694137696]
  kernel_rfl
theorem hp263 : (∀ (x0 : World), ((fun (x1 : OsState) => (segRunT treeTable PR x0 11 (some (.ref 6)) 1 61 ⟨(ht246 (World.params x0)), 207, ⟨[], [], [], 0, [], [], false, (#[]), [], 0, false, false, false, (0 : Int), [(2000 : Int), (10 : Int), (10 : Int)], false, 0, true, [], [], 0, false⟩, ⟨[]⟩, ⟨0, 0, 0, 0⟩, 441, x1⟩ (piecesOf hs247 he41 (.body (behindTheImports PR) he41) ⟨123, 0, 124, 502⟩ [(topFrame ⟨0, 0, 0, 0⟩)]))) = (fun (x1 : OsState) => (some (.next, (⟨(ht262 (World.params x0)), 221, ⟨[], [], [], 0, [], [], false, (#[]), [], 0, false, false, false, (0 : Int), [(2000 : Int), (10 : Int), (10 : Int)], false, 0, true, [], [], 0, false⟩, ⟨[]⟩, ⟨0, 0, 0, 0⟩, 457, x1⟩, ((.body (behindTheImports PR) he41), ⟨133, 0, 147, 25⟩))))))) := by
  intro w
  try rw [PySem.W.Fast.te10110043849684766642]
  try rw [PySem.W.Fast.te14364793385576792824]
  try rw [PySem.W.Fast.te2368527892694137696]
  kernel_rfl
theorem hp336 : (∀ (x0 : World), ((fun (x1 : OsState) => (segRunT treeTable PR x0 11 (some (.ref 6)) 1 463 ⟨(ht262 (World.params x0)), 221, ⟨[], [], [], 0, [], [], false, (#[]), [], 0, false, false, false, (0 : Int), [(2000 : Int), (10 : Int), (10 : Int)], false, 0, true, [], [], 0, false⟩, ⟨[]⟩, ⟨0, 0, 0, 0⟩, 457, x1⟩ (piecesOf hs263 he41 (.body (behindTheImports PR) he41) ⟨133, 0, 147, 25⟩ [(topFrame ⟨0, 0, 0, 0⟩)]))) = (fun (x1 : OsState) => (some (.next, (⟨(ht335 (World.params x0)), 292, ⟨[], [], [], 0, [], [], false, (#[]), [], 0, false, false, false, (0 : Int), [(2000 : Int), (10 : Int), (10 : Int)], false, 0, true, [], [], 0, false⟩, ⟨[]⟩, ⟨0, 0, 0, 0⟩, 557, x1⟩, ((.body (behindTheImports PR) he41), ⟨148, 0, 193, 28⟩))))))) := by
  intro w
  try rw [PySem.W.Fast.te10110043849684766642]
  try rw [PySem.W.Fast.te14364793385576792824]
  try rw [PySem.W.Fast.te2368527892694137696]
  kernel_rfl
theorem hp381 : (∀ (x0 : World), ((fun (x1 : OsState) => (segRunT treeTable PR x0 11 (some (.ref 6)) 1 211 ⟨(ht335 (World.params x0)), 292, ⟨[], [], [], 0, [], [], false, (#[]), [], 0, false, false, false, (0 : Int), [(2000 : Int), (10 : Int), (10 : Int)], false, 0, true, [], [], 0, false⟩, ⟨[]⟩, ⟨0, 0, 0, 0⟩, 557, x1⟩ (piecesOf hs336 he41 (.body (behindTheImports PR) he41) ⟨148, 0, 193, 28⟩ [(topFrame ⟨0, 0, 0, 0⟩)]))) = (fun (x1 : OsState) => (some (.next, (⟨(ht380 (World.params x0)), 335, ⟨[], [], [], 0, [], [], false, (#[]), [], 0, false, false, false, (0 : Int), [(2000 : Int), (10 : Int), (10 : Int)], false, 0, true, [], [], 0, false⟩, ⟨[]⟩, ⟨0, 0, 0, 0⟩, 613, x1⟩, ((.body (behindTheImports PR) he41), ⟨225, 0, 226, 61⟩))))))) := by
  intro w
  try rw [PySem.W.Fast.te10110043849684766642]
  try rw [PySem.W.Fast.te14364793385576792824]
  try rw [PySem.W.Fast.te2368527892694137696]
  kernel_rfl
theorem hp608T : (∀ (x0 : World), ((fun (x1 : OsState) => (segRunT treeTable PR x0 11 (some (.ref 6)) 1 828 ⟨(ht380 (World.params x0)), 335, ⟨[], [], [], 0, [], [], false, (#[]), [], 0, false, false, false, (0 : Int), [(2000 : Int), (10 : Int), (10 : Int)], false, 0, true, [], [], 0, false⟩, ⟨[]⟩, ⟨0, 0, 0, 0⟩, 613, x1⟩ (piecesOf hs381 he41 (.body (behindTheImports PR) he41) ⟨225, 0, 226, 61⟩ [(topFrame ⟨0, 0, 0, 0⟩)]))) = (fun (x1 : OsState) => (some (.next, (⟨(ht524 (World.params x0)), 477, ⟨[], [], [], 0, [], [], false, (#[]), [], 0, false, false, false, (0 : Int), [(2000 : Int), (10 : Int), (10 : Int)], false, 0, true, [], [], 0, false⟩, ⟨[]⟩, ⟨0, 0, 0, 0⟩, 833, x1⟩, ((.body (behindTheImports PR) he41), ⟨227, 0, 435, 26⟩))))))) := by
  intro w
  try rw [PySem.W.Fast.te10110043849684766642]
  try rw [PySem.W.Fast.te14364793385576792824]
  try rw [PySem.W.Fast.te2368527892694137696]
  kernel_rfl
theorem hp608 : (∀ (x0 : World), ((fun (x1 : OsState) => (segRun treeTable PR x0 11 (some (.ref 6)) 1 828 (SharedT.abs ⟨(ht380 (World.params x0)), 335, ⟨[], [], [], 0, [], [], false, (#[]), [], 0, false, false, false, (0 : Int), [(2000 : Int), (10 : Int), (10 : Int)], false, 0, true, [], [], 0, false⟩, ⟨[]⟩, ⟨0, 0, 0, 0⟩, 613, x1⟩) (piecesOf hs381 he41 (.body (behindTheImports PR) he41) ⟨225, 0, 226, 61⟩ [(topFrame ⟨0, 0, 0, 0⟩)]))) = (fun (x1 : OsState) => (some (.next, ((SharedT.abs ⟨(ht524 (World.params x0)), 477, ⟨[], [], [], 0, [], [], false, (#[]), [], 0, false, false, false, (0 : Int), [(2000 : Int), (10 : Int), (10 : Int)], false, 0, true, [], [], 0, false⟩, ⟨[]⟩, ⟨0, 0, 0, 0⟩, 833, x1⟩), ((.body (behindTheImports PR) he41), ⟨227, 0, 435, 26⟩))))))) := fun w => funext fun os => segRun_of (congrFun (hp608T w) os)
theorem hp652 : (∀ (x0 : World), ((fun (x1 : OsState) => (segRunT treeTable PR x0 11 (some (.ref 6)) 1 216 ⟨(ht524 (World.params x0)), 477, ⟨[], [], [], 0, [], [], false, (#[]), [], 0, false, false, false, (0 : Int), [(2000 : Int), (10 : Int), (10 : Int)], false, 0, true, [], [], 0, false⟩, ⟨[]⟩, ⟨0, 0, 0, 0⟩, 833, x1⟩ (piecesOf hs608 he41 (.body (behindTheImports PR) he41) ⟨227, 0, 435, 26⟩ [(topFrame ⟨0, 0, 0, 0⟩)]))) = (fun (x1 : OsState) => (some (.next, (⟨(ht651 (World.params x0)), 519, ⟨[], [], [], 0, [], [], false, (#[]), [], 0, false, false, false, (0 : Int), [(2000 : Int), (10 : Int), (10 : Int)], false, 0, true, [], [], 0, false⟩, ⟨[]⟩, ⟨0, 0, 0, 0⟩, 909, x1⟩, ((.body (behindTheImports PR) he41), ⟨460, 0, 522, 96⟩))))))) := by
  intro w
  try rw [PySem.W.Fast.te10110043849684766642]
  try rw [PySem.W.Fast.te14364793385576792824]
  try rw [PySem.W.Fast.te2368527892694137696]
  kernel_rfl
theorem hp654 : (∀ (x0 : World), ((fun (x1 : OsState) => (topRun treeTable PR x0 11 (some (.ref 6)) 2 (SharedT.abs ⟨(ht651 (World.params x0)), 519, ⟨[], [], [], 0, [], [], false, (#[]), [], 0, false, false, false, (0 : Int), [(2000 : Int), (10 : Int), (10 : Int)], false, 0, true, [], [], 0, false⟩, ⟨[]⟩, ⟨0, 0, 0, 0⟩, 909, x1⟩) ⟨(doneF .next), (.body (behindTheImports PR) he41), ⟨460, 0, 522, 96⟩, [(topFrame ⟨0, 0, 0, 0⟩)]⟩)) = (fun (x1 : OsState) => (some ⟨(hh652 (World.params x0)), ⟨[]⟩, ⟨0, 0, 0, 0⟩, 909, x1⟩)))) := by
  intro w
  try rw [PySem.W.Fast.te14082659384304107361]
  try rw [PySem.W.Fast.te14364793385576792824]
  try rw [PySem.W.Fast.te2368527892694137696]
  kernel_rfl
theorem hp655 : (∀ (x0 : World), (∀ (x1 : OsState), ((topRun treeTable PR x0 11 (some (.ref 6)) (Nat.add 12 (Nat.add 1 (Nat.add 158 (Nat.add 553 (Nat.add 398 (Nat.add 61 (Nat.add 463 (Nat.add 211 (Nat.add 828 (Nat.add 216 2)))))))))) ⟨(boot_heap (World.params x0)), ⟨[]⟩, boot_drawn, boot_toks, x1⟩ (topStub PR)) = (some ⟨(hh652 (World.params x0)), ⟨[]⟩, ⟨0, 0, 0, 0⟩, 909, x1⟩)))) := (fun (x0 : World) => (fun (x1 : OsState) => (go_top (congrFun (hp47 x0) x1) (piece_block (congrFun (hp49 x0) x1) (piece_app (congrFun ((fun (x2 : World) => (funext (fun (x3 : OsState) => (segRun_of (congrFun (hp72 x2) x3))))) x0) x1) (piece_app (congrFun ((fun (x2 : World) => (funext (fun (x3 : OsState) => (segRun_of (congrFun (hp165 x2) x3))))) x0) x1) (piece_app (congrFun ((fun (x2 : World) => (funext (fun (x3 : OsState) => (segRun_of (congrFun (hp247 x2) x3))))) x0) x1) (piece_app (congrFun ((fun (x2 : World) => (funext (fun (x3 : OsState) => (segRun_of (congrFun (hp263 x2) x3))))) x0) x1) (piece_app (congrFun ((fun (x2 : World) => (funext (fun (x3 : OsState) => (segRun_of (congrFun (hp336 x2) x3))))) x0) x1) (piece_app (congrFun ((fun (x2 : World) => (funext (fun (x3 : OsState) => (segRun_of (congrFun (hp381 x2) x3))))) x0) x1) (piece_app (congrFun (hp608 x0) x1) (piece_app (congrFun ((fun (x2 : World) => (funext (fun (x3 : OsState) => (segRun_of (congrFun (hp652 x2) x3))))) x0) x1) (congrFun (hp654 x0) x1)))))))))))))
theorem hp657 : (∀ (x0 : World), (((Bool.and (Heap.isNs (boot_heap (World.params x0)) mainGlobals) (BEq.beq (Array.size (⟨[]⟩ : Array GenState)) 0)), ((Array.size (Heap.objs (boot_heap (World.params x0)))), (Heap.nsMap (boot_heap (World.params x0)) mainGlobals (so "__annotations__")))) = (true, (11, (some (.ref 6)))))) := by
  intro w
  try rw [PySem.W.Fast.te8920871248978507458]
  kernel_rfl
theorem hp659 : (∀ (x0 : World), ((fun (x1 : OsState) => (Bool.and (Bool.and (Bool.and (staticsOk (importedModules (Module.body (Program.main PR))) (boot_heap (World.params x0)) (hh652 (World.params x0))) (namesBound PR (hh652 (World.params x0)))) (gensDone ⟨(hh652 (World.params x0)), ⟨[]⟩, ⟨0, 0, 0, 0⟩, 909, x1⟩)) (laidKept (boot_heap (World.params x0)) (hh652 (World.params x0))))) = (fun (x1 : OsState) => true))) := by
  intro w
  try rw [PySem.W.Fast.te5923862056798008813]
  try rw [PySem.W.Fast.te2368527892694137696]
  kernel_rfl
theorem hp661 : (∀ (x0 : World), ((fun (x1 : OsState) => (seen (List.map (fun (x2 : DefRec) => (DefRec.name x2)) (recsOf hv)) (ownsOf hv) [] ⟨(Shared.heap ⟨(hh652 (World.params x0)), ⟨[]⟩, ⟨0, 0, 0, 0⟩, 909, x1⟩), (#[]), (Shared.drawn ⟨(hh652 (World.params x0)), ⟨[]⟩, ⟨0, 0, 0, 0⟩, 909, x1⟩), (Shared.toks ⟨(hh652 (World.params x0)), ⟨[]⟩, ⟨0, 0, 0, 0⟩, 909, x1⟩), (Shared.os ⟨(hh652 (World.params x0)), ⟨[]⟩, ⟨0, 0, 0, 0⟩, 909, x1⟩)⟩)) = (fun (x1 : OsState) => (expectedOf hv)))) := by
  intro w
  try rw [PySem.W.Fast.te5160383126252970620]
  try rw [PySem.W.R.mapR_eq]
  try rw [PySem.W.Fast.te3399658132070893891]
  try rw [PySem.W.Fast.te5991557255702980513]
  kernel_rfl
theorem hp663 : (∀ (x0 : World), ((fun (x1 : OsState) => (Heap.bltView (Shared.heap ⟨(hh652 (World.params x0)), ⟨[]⟩, ⟨0, 0, 0, 0⟩, 909, x1⟩))) = (fun (x1 : OsState) => bltViewBooted))) := by
  intro w
  kernel_rfl
theorem hp665 : (∀ (x0 : World), ((fun (x1 : OsState) => (Bool.and (Bool.and (Bool.and (Bool.and (Bool.and (Bool.and (Heap.keysOk (Shared.heap ⟨(hh652 (World.params x0)), ⟨[]⟩, ⟨0, 0, 0, 0⟩, 909, x1⟩) (looseW hv [(so "atom_text"), (so "Writer")]) (List.map (fun (x2 : DefRec) => (DefRec.name x2)) (recsOf hv)) (List.map (fun (x2 : (Prod Str PyData)) => (Prod.fst x2)) (litsOf hv)) (List.map (fun (x2 : ClsRec) => (ClsRec.name x2)) (clssOf hv (looseW hv [(so "atom_text"), (so "Writer")])))) (Heap.accountedOkI (Shared.heap ⟨(hh652 (World.params x0)), ⟨[]⟩, ⟨0, 0, 0, 0⟩, 909, x1⟩) (importedModules (Module.body (Program.main PR))))) (Heap.isNs (Shared.heap ⟨(hh652 (World.params x0)), ⟨[]⟩, ⟨0, 0, 0, 0⟩, 909, x1⟩) mainGlobals)) (Heap.isNs (Shared.heap ⟨(hh652 (World.params x0)), ⟨[]⟩, ⟨0, 0, 0, 0⟩, 909, x1⟩) builtinsNs)) (tablesOk hv (Shared.heap ⟨(hh652 (World.params x0)), ⟨[]⟩, ⟨0, 0, 0, 0⟩, 909, x1⟩))) ((fun (x2 : Shared) => (Bool.and (xlAt hv [] x2) (recOk (RowW.records (OpenRow.toRowW (OpenLaw.row PySem.Challenge.rw_sa0155_03))) x2))) ⟨(hh652 (World.params x0)), ⟨[]⟩, ⟨0, 0, 0, 0⟩, 909, x1⟩)) (ite (true = true) (BEq.beq (Array.size (Shared.gens ⟨(hh652 (World.params x0)), ⟨[]⟩, ⟨0, 0, 0, 0⟩, 909, x1⟩)) 0) (Bool.not (leftWithCleanup (Shared.gens ⟨(hh652 (World.params x0)), ⟨[]⟩, ⟨0, 0, 0, 0⟩, 909, x1⟩)))))) = (fun (x1 : OsState) => true))) := by
  intro w
  try rw [PySem.W.Fast.te10880121769531294198]
  try rw [PySem.W.Fast.te821141287760084731]
  try rw [PySem.W.R.mapR_eq]
  try rw [PySem.W.Fast.te3399658132070893891]
  try rw [PySem.W.Fast.te7409074990110511671]
  try rw [PySem.W.Fast.te13664370479719496447]
  try rw [PySem.W.Fast.te14722251495701143533]
  try rw [PySem.W.Fast.te5923862056798008813]
  try rw [PySem.W.Fast.te2368527892694137696]
  try rw [PySem.W.Fast.te10994771534591457954]
  kernel_rfl
theorem hp667 : (∀ (x0 : World), ((fun (x1 : OsState) => (tabsOk hv ⟨(hh652 (World.params x0)), ⟨[]⟩, ⟨0, 0, 0, 0⟩, 909, x1⟩)) = (fun (x1 : OsState) => true))) := by
  intro w
  try rw [PySem.W.Fast.te479339242167458305]
  kernel_rfl
theorem hp669 : (∀ (x0 : World), ((fun (x1 : OsState) => (pinSeenD hv (drecsOf hv) ⟨(hh652 (World.params x0)), ⟨[]⟩, ⟨0, 0, 0, 0⟩, 909, x1⟩)) = (fun (x1 : OsState) => (pinGoodD (drecsOf hv))))) := by
  intro w
  try rw [PySem.W.Fast.te16090120013241838585]
  try rw [PySem.W.Fast.te3247288618530077131]
  kernel_rfl
theorem hp671 : (∀ (x0 : World), ((fun (x1 : OsState) => (plainSeenE hv (looseW hv [(so "atom_text"), (so "Writer")]) ⟨(hh652 (World.params x0)), ⟨[]⟩, ⟨0, 0, 0, 0⟩, 909, x1⟩)) = (fun (x1 : OsState) => (plainGoodE hv (looseW hv [(so "atom_text"), (so "Writer")]))))) := by
  intro w
  try rw [PySem.W.Fast.te2386780881361962483]
  try rw [PySem.W.Fast.te821141287760084731]
  kernel_rfl
theorem hp673 : (∀ (x0 : World), ((fun (x1 : OsState) => (plainSeenD hv [(so "atom_text"), (so "Writer")] ⟨(hh652 (World.params x0)), ⟨[]⟩, ⟨0, 0, 0, 0⟩, 909, x1⟩)) = (fun (x1 : OsState) => (plainGoodD hv [(so "atom_text"), (so "Writer")])))) := by
  intro w
  try rw [PySem.W.Fast.te11698064438423848299]
  kernel_rfl
theorem hp675 : (∀ (x0 : World), ((fun (x1 : OsState) => (wideSeen hv ⟨(hh652 (World.params x0)), ⟨[]⟩, ⟨0, 0, 0, 0⟩, 909, x1⟩)) = (fun (x1 : OsState) => (wideGood hv)))) := by
  intro w
  try rw [PySem.W.Fast.te7317090234206586261]
  kernel_rfl
theorem hp677 : (∀ (x0 : World), ((fun (x1 : OsState) => (clsSeenW hv [(so "atom_text"), (so "Writer")] ⟨(hh652 (World.params x0)), ⟨[]⟩, ⟨0, 0, 0, 0⟩, 909, x1⟩)) = (fun (x1 : OsState) => (clsGoodW hv [(so "atom_text"), (so "Writer")])))) := by
  intro w
  try rw [PySem.W.Fast.te7369524293546568484]
  kernel_rfl
noncomputable def hLoose : List Str := [(so "atom_text"), (so "Writer")]
noncomputable def hX : Shared → Bool := fun s => xlAt hv [] s && recOk (RowW.records PySem.Challenge.rw_sa0155_03.row.toRowW) s
noncomputable def hSt (w : World) (os : OsState) : Shared := ⟨hh652 w.params, ⟨[]⟩, ⟨0, 0, 0, 0⟩, 909, os⟩
theorem hKas : ∀ P, hKa = (hK P).map (·.1) := fun _ => by kernel_rfl
theorem hpK (w : World) (os : OsState) : (kHook hK hKa hKas).obs (hSt w os) = (kHook hK hKa hKas).val w := by kernel_rfl
theorem hopen : opening PR = plainProg PR.main.scope.names := by kernel_rfl
theorem hfence : ∀ s : Shared, fenceModules? PR s = some s := fun s => by kernel_rfl
theorem hseen (w : World) (os : OsState) : openSeen hv hLoose (importedModules PR.main.body) hX true (hSt w os) = openGood hv hLoose :=
  looks_pair (congrFun (hp661 w) os) (looks_pair (congrFun (hp663 w) os) (looks_pair (congrFun (hp665 w) os) (looks_pair (congrFun (hp667 w) os) (looks_pair (congrFun (hp669 w) os) (looks_pair (congrFun (hp671 w) os) (looks_pair (congrFun (hp673 w) os) (looks_pair (congrFun (hp675 w) os) (congrFun (hp677 w) os))))))))
theorem hleft : LeftO PySem.Challenge.rw_sa0155_03.row.prog hv hLoose hX (Hook.obs (kHook hK hKa hKas)) (Hook.val (kHook hK hKa hKas)) 6402 :=
  LeftO.of_pieces (boot_open (p := PR) (N := 6402) hopen (by decide) hfence) hp657 hp655 (by decide) fun w => funext fun os => looks_pair (congrFun (hp659 w) os) (looks_pair (hseen w os) (hpK w os))
end Mn
end
section
namespace Mn
theorem ab0 (p : Params) : (fdOf (hK p) 28).body = .stmts (toSs P1 ns0 ir0) := by kernel_rfl
theorem bd0 (p : Params) : Binds (hK p) fi0 := binds_of (by kernel_rfl)
theorem ab1 (p : Params) : (fdOf (hK p) 35).body = .stmts (toSs P1 ns1 ir1) := by kernel_rfl
theorem bd1 (p : Params) : Binds (hK p) fi1 := binds_of (by kernel_rfl)
theorem ab2 (p : Params) : (fdOf (hK p) 49).body = .stmts (toSs P1 ns2 ir2) := by kernel_rfl
theorem bd2 (p : Params) : Binds (hK p) fi2 := binds_of (by kernel_rfl)
theorem ab3 (p : Params) : (fdOf (hK p) 56).body = .stmts (toSs P1 ns3 ir3) := by kernel_rfl
theorem bd3 (p : Params) : Binds (hK p) fi3 := binds_of (by kernel_rfl)
theorem ab4 (p : Params) : (fdOf (hK p) 63).body = .stmts (toSs P1 ns4 ir4) := by kernel_rfl
theorem bd4 (p : Params) : Binds (hK p) fi4 := binds_of (by kernel_rfl)
theorem ab5 (p : Params) : (fdOf (hK p) 70).body = .stmts (toSs P1 ns5 ir5) := by kernel_rfl
theorem bd5 (p : Params) : Binds (hK p) fi5 := binds_of (by kernel_rfl)
theorem ab6 (p : Params) : (fdOf (hK p) 77).body = .stmts (toSs P1 ns6 ir6) := by kernel_rfl
theorem bd6 (p : Params) : Binds (hK p) fi6 := binds_of (by kernel_rfl)
theorem ab7 (p : Params) : (fdOf (hK p) 84).body = .stmts (toSs P1 ns7 ir7) := by kernel_rfl
theorem bd7 (p : Params) : Binds (hK p) fi7 := binds_of (by kernel_rfl)
theorem ab8 (p : Params) : (fdOf (hK p) 91).body = .stmts (toSs P1 ns8 ir8) := by kernel_rfl
theorem bd8 (p : Params) : Binds (hK p) fi8 := binds_of (by kernel_rfl)
theorem ab9 (p : Params) : (fdOf (hK p) 133).body = .stmts (toSs P1 ns9 ir9) := by kernel_rfl
theorem bd9 (p : Params) : Binds (hK p) fi9 := binds_of (by kernel_rfl)
theorem ab10 (p : Params) : (fdOf (hK p) 140).body = .stmts (toSs P1 ns10 ir10) := by kernel_rfl
theorem bd10 (p : Params) : Binds (hK p) fi10 := binds_of (by kernel_rfl)
theorem ab11 (p : Params) : (fdOf (hK p) 147).body = .stmts (toSs P1 ns11 ir11) := by kernel_rfl
theorem bd11 (p : Params) : Binds (hK p) fi11 := binds_of (by kernel_rfl)
theorem ab12 (p : Params) : (fdOf (hK p) 154).body = .stmts (toSs P1 ns12 ir12) := by kernel_rfl
theorem bd12 (p : Params) : Binds (hK p) fi12 := binds_of (by kernel_rfl)
theorem ab13 (p : Params) : (fdOf (hK p) 161).body = .stmts (toSs P1 ns13 ir13) := by kernel_rfl
theorem bd13 (p : Params) : Binds (hK p) fi13 := binds_of (by kernel_rfl)
theorem ab14 (p : Params) : (fdOf (hK p) 168).body = .stmts (toSs P1 ns14 ir14) := by kernel_rfl
theorem bd14 (p : Params) : Binds (hK p) fi14 := binds_of (by kernel_rfl)
theorem ab15 (p : Params) : (fdOf (hK p) 182).body = .stmts (toSs P1 ns15 ir15) := by kernel_rfl
theorem bd15 (p : Params) : Binds (hK p) fi15 := binds_of (by kernel_rfl)
theorem ab16 (p : Params) : (fdOf (hK p) 189).body = .stmts (toSs P1 ns16 ir16) := by kernel_rfl
theorem bd16 (p : Params) : Binds (hK p) fi16 := binds_of (by kernel_rfl)
theorem ab17 (p : Params) : (fdOf (hK p) 196).body = .stmts (toSs P1 ns17 ir17) := by kernel_rfl
theorem bd17 (p : Params) : Binds (hK p) fi17 := binds_of (by kernel_rfl)
theorem ab18 (p : Params) : (fdOf (hK p) 213).body = .stmts (toSs P1 ns18 ir18) := by kernel_rfl
theorem bd18 (p : Params) : Binds (hK p) fi18 := binds_of (by kernel_rfl)
theorem ab19 (p : Params) : (fdOf (hK p) 220).body = .stmts (toSs P1 ns19 ir19) := by kernel_rfl
theorem bd19 (p : Params) : Binds (hK p) fi19 := binds_of (by kernel_rfl)
theorem ab20 (p : Params) : (fdOf (hK p) 235).body = .stmts (toSs P1 ns20 ir20) := by kernel_rfl
theorem bd20 (p : Params) : Binds (hK p) fi20 := binds_of (by kernel_rfl)
theorem ab21 (p : Params) : (fdOf (hK p) 242).body = .stmts (toSs P1 ns21 ir21) := by kernel_rfl
theorem bd21 (p : Params) : Binds (hK p) fi21 := binds_of (by kernel_rfl)
theorem ab22 (p : Params) : (fdOf (hK p) 249).body = .stmts (toSs P1 ns22 ir22) := by kernel_rfl
theorem bd22 (p : Params) : Binds (hK p) fi22 := binds_of (by kernel_rfl)
theorem ab23 (p : Params) : (fdOf (hK p) 256).body = .stmts (toSs P1 ns23 ir23) := by kernel_rfl
theorem bd23 (p : Params) : Binds (hK p) fi23 := binds_of (by kernel_rfl)
theorem ab24 (p : Params) : (fdOf (hK p) 263).body = .stmts (toSs P1 ns24 ir24) := by kernel_rfl
theorem bd24 (p : Params) : Binds (hK p) fi24 := binds_of (by kernel_rfl)
theorem ab25 (p : Params) : (fdOf (hK p) 270).body = .stmts (toSs P1 ns25 ir25) := by kernel_rfl
theorem bd25 (p : Params) : Binds (hK p) fi25 := binds_of (by kernel_rfl)
theorem ab26 (p : Params) : (fdOf (hK p) 277).body = .stmts (toSs P1 ns26 ir26) := by kernel_rfl
theorem bd26 (p : Params) : Binds (hK p) fi26 := binds_of (by kernel_rfl)
theorem ab27 (p : Params) : (fdOf (hK p) 313).body = .stmts (toSs P1 ns27 ir27) := by kernel_rfl
theorem bd27 (p : Params) : Binds (hK p) fi27 := binds_of (by kernel_rfl)
theorem ab28 (p : Params) : (fdOf (hK p) 327).body = .stmts (toSs P1 ns28 ir28) := by kernel_rfl
theorem bd28 (p : Params) : Binds (hK p) fi28 := binds_of (by kernel_rfl)
theorem ab29 (p : Params) : (fdOf (hK p) 334).body = .stmts (toSs P1 ns29 ir29) := by kernel_rfl
theorem bd29 (p : Params) : Binds (hK p) fi29 := binds_of (by kernel_rfl)
theorem ab30 (p : Params) : (fdOf (hK p) 349).body = .stmts (toSs P1 ns30 ir30) := by kernel_rfl
theorem bd30 (p : Params) : Binds (hK p) fi30 := binds_of (by kernel_rfl)
theorem ab31 (p : Params) : (fdOf (hK p) 357).body = .stmts (toSs P1 ns31 ir31) := by kernel_rfl
theorem bd31 (p : Params) : Binds (hK p) fi31 := binds_of (by kernel_rfl)
theorem ab32 (p : Params) : (fdOf (hK p) 364).body = .stmts (toSs P1 ns32 ir32) := by kernel_rfl
theorem bd32 (p : Params) : Binds (hK p) fi32 := binds_of (by kernel_rfl)
theorem ab33 (p : Params) : (fdOf (hK p) 371).body = .stmts (toSs P1 ns33 ir33) := by kernel_rfl
theorem bd33 (p : Params) : Binds (hK p) fi33 := binds_of (by kernel_rfl)
theorem ab34 (p : Params) : (fdOf (hK p) 378).body = .stmts (toSs P1 ns34 ir34) := by kernel_rfl
theorem bd34 (p : Params) : Binds (hK p) fi34 := binds_of (by kernel_rfl)
theorem ab35 (p : Params) : (fdOf (hK p) 385).body = .stmts (toSs P1 ns35 ir35) := by kernel_rfl
theorem bd35 (p : Params) : Binds (hK p) fi35 := binds_of (by kernel_rfl)
theorem ab36 (p : Params) : (fdOf (hK p) 392).body = .stmts (toSs P1 ns36 ir36) := by kernel_rfl
theorem bd36 (p : Params) : Binds (hK p) fi36 := binds_of (by kernel_rfl)
theorem ab37 (p : Params) : (fdOf (hK p) 406).body = .stmts (toSs P1 ns37 ir37) := by kernel_rfl
theorem bd37 (p : Params) : Binds (hK p) fi37 := binds_of (by kernel_rfl)
theorem ab38 (p : Params) : (fdOf (hK p) 413).body = .stmts (toSs P1 ns38 ir38) := by kernel_rfl
theorem bd38 (p : Params) : Binds (hK p) fi38 := binds_of (by kernel_rfl)
theorem ab39 (p : Params) : (fdOf (hK p) 420).body = .stmts (toSs P1 ns39 ir39) := by kernel_rfl
theorem bd39 (p : Params) : Binds (hK p) fi39 := binds_of (by kernel_rfl)
theorem ab40 (p : Params) : (fdOf (hK p) 427).body = .stmts (toSs P1 ns40 ir40) := by kernel_rfl
theorem bd40 (p : Params) : Binds (hK p) fi40 := binds_of (by kernel_rfl)
theorem ab41 (p : Params) : (fdOf (hK p) 434).body = .stmts (toSs P1 ns41 ir41) := by kernel_rfl
theorem bd41 (p : Params) : Binds (hK p) fi41 := binds_of (by kernel_rfl)
theorem ab42 (p : Params) : (fdOf (hK p) 441).body = .stmts (toSs P1 ns42 ir42) := by kernel_rfl
theorem bd42 (p : Params) : Binds (hK p) fi42 := binds_of (by kernel_rfl)
theorem ab43 (p : Params) : (fdOf (hK p) 448).body = .stmts (toSs P1 ns43 ir43) := by kernel_rfl
theorem bd43 (p : Params) : Binds (hK p) fi43 := binds_of (by kernel_rfl)
theorem ab44 (p : Params) : (fdOf (hK p) 455).body = .stmts (toSs P1 ns44 ir44) := by kernel_rfl
theorem bd44 (p : Params) : Binds (hK p) fi44 := binds_of (by kernel_rfl)
theorem ab45 (p : Params) : (fdOf (hK p) 462).body = .stmts (toSs P1 ns45 ir45) := by kernel_rfl
theorem bd45 (p : Params) : Binds (hK p) fi45 := binds_of (by kernel_rfl)
theorem ab46 (p : Params) : (fdOf (hK p) 469).body = .stmts (toSs P1 ns46 ir46) := by kernel_rfl
theorem bd46 (p : Params) : Binds (hK p) fi46 := binds_of (by kernel_rfl)
theorem ab47 (p : Params) : (fdOf (hK p) 483).body = .stmts (toSs P1 ns47 ir47) := by kernel_rfl
theorem bd47 (p : Params) : Binds (hK p) fi47 := binds_of (by kernel_rfl)
theorem ab48 (p : Params) : (fdOf (hK p) 490).body = .stmts (toSs P1 ns48 ir48) := by kernel_rfl
theorem bd48 (p : Params) : Binds (hK p) fi48 := binds_of (by kernel_rfl)
theorem ab49 (p : Params) : (fdOf (hK p) 497).body = .stmts (toSs P1 ns49 ir49) := by kernel_rfl
theorem bd49 (p : Params) : Binds (hK p) fi49 := binds_of (by kernel_rfl)
theorem ab50 (p : Params) : (fdOf (hK p) 504).body = .stmts (toSs P1 ns50 ir50) := by kernel_rfl
theorem bd50 (p : Params) : Binds (hK p) fi50 := binds_of (by kernel_rfl)
theorem ab51 (p : Params) : (fdOf (hK p) 511).body = .stmts (toSs P1 ns51 ir51) := by kernel_rfl
theorem bd51 (p : Params) : Binds (hK p) fi51 := binds_of (by kernel_rfl)
theorem allB (p : Params) : AllB (hK p) P0.fns := by
  refine And.intro (And.intro (ab0 p) (bd0 p)) ?_
  refine And.intro (And.intro (ab1 p) (bd1 p)) ?_
  refine And.intro (And.intro (ab2 p) (bd2 p)) ?_
  refine And.intro (And.intro (ab3 p) (bd3 p)) ?_
  refine And.intro (And.intro (ab4 p) (bd4 p)) ?_
  refine And.intro (And.intro (ab5 p) (bd5 p)) ?_
  refine And.intro (And.intro (ab6 p) (bd6 p)) ?_
  refine And.intro (And.intro (ab7 p) (bd7 p)) ?_
  refine And.intro (And.intro (ab8 p) (bd8 p)) ?_
  refine And.intro (And.intro (ab9 p) (bd9 p)) ?_
  refine And.intro (And.intro (ab10 p) (bd10 p)) ?_
  refine And.intro (And.intro (ab11 p) (bd11 p)) ?_
  refine And.intro (And.intro (ab12 p) (bd12 p)) ?_
  refine And.intro (And.intro (ab13 p) (bd13 p)) ?_
  refine And.intro (And.intro (ab14 p) (bd14 p)) ?_
  refine And.intro (And.intro (ab15 p) (bd15 p)) ?_
  refine And.intro (And.intro (ab16 p) (bd16 p)) ?_
  refine And.intro (And.intro (ab17 p) (bd17 p)) ?_
  refine And.intro (And.intro (ab18 p) (bd18 p)) ?_
  refine And.intro (And.intro (ab19 p) (bd19 p)) ?_
  refine And.intro (And.intro (ab20 p) (bd20 p)) ?_
  refine And.intro (And.intro (ab21 p) (bd21 p)) ?_
  refine And.intro (And.intro (ab22 p) (bd22 p)) ?_
  refine And.intro (And.intro (ab23 p) (bd23 p)) ?_
  refine And.intro (And.intro (ab24 p) (bd24 p)) ?_
  refine And.intro (And.intro (ab25 p) (bd25 p)) ?_
  refine And.intro (And.intro (ab26 p) (bd26 p)) ?_
  refine And.intro (And.intro (ab27 p) (bd27 p)) ?_
  refine And.intro (And.intro (ab28 p) (bd28 p)) ?_
  refine And.intro (And.intro (ab29 p) (bd29 p)) ?_
  refine And.intro (And.intro (ab30 p) (bd30 p)) ?_
  refine And.intro (And.intro (ab31 p) (bd31 p)) ?_
  refine And.intro (And.intro (ab32 p) (bd32 p)) ?_
  refine And.intro (And.intro (ab33 p) (bd33 p)) ?_
  refine And.intro (And.intro (ab34 p) (bd34 p)) ?_
  refine And.intro (And.intro (ab35 p) (bd35 p)) ?_
  refine And.intro (And.intro (ab36 p) (bd36 p)) ?_
  refine And.intro (And.intro (ab37 p) (bd37 p)) ?_
  refine And.intro (And.intro (ab38 p) (bd38 p)) ?_
  refine And.intro (And.intro (ab39 p) (bd39 p)) ?_
  refine And.intro (And.intro (ab40 p) (bd40 p)) ?_
  refine And.intro (And.intro (ab41 p) (bd41 p)) ?_
  refine And.intro (And.intro (ab42 p) (bd42 p)) ?_
  refine And.intro (And.intro (ab43 p) (bd43 p)) ?_
  refine And.intro (And.intro (ab44 p) (bd44 p)) ?_
  refine And.intro (And.intro (ab45 p) (bd45 p)) ?_
  refine And.intro (And.intro (ab46 p) (bd46 p)) ?_
  refine And.intro (And.intro (ab47 p) (bd47 p)) ?_
  refine And.intro (And.intro (ab48 p) (bd48 p)) ?_
  refine And.intro (And.intro (ab49 p) (bd49 p)) ?_
  refine And.intro (And.intro (ab50 p) (bd50 p)) ?_
  refine And.intro (And.intro (ab51 p) (bd51 p)) ?_
  exact True.intro
theorem allI : AllI P0 P0.fns irs0 := by
  refine And.intro (And.intro (by kernel_rfl) (by kernel_rfl)) ?_
  refine And.intro (And.intro (by kernel_rfl) (by kernel_rfl)) ?_
  refine And.intro (And.intro (by kernel_rfl) (by kernel_rfl)) ?_
  refine And.intro (And.intro (by kernel_rfl) (by kernel_rfl)) ?_
  refine And.intro (And.intro (by kernel_rfl) (by kernel_rfl)) ?_
  refine And.intro (And.intro (by kernel_rfl) (by kernel_rfl)) ?_
  refine And.intro (And.intro (by kernel_rfl) (by kernel_rfl)) ?_
  refine And.intro (And.intro (by kernel_rfl) (by kernel_rfl)) ?_
  refine And.intro (And.intro (by kernel_rfl) (by kernel_rfl)) ?_
  refine And.intro (And.intro (by kernel_rfl) (by kernel_rfl)) ?_
  refine And.intro (And.intro (by kernel_rfl) (by kernel_rfl)) ?_
  refine And.intro (And.intro (by kernel_rfl) (by kernel_rfl)) ?_
  refine And.intro (And.intro (by kernel_rfl) (by kernel_rfl)) ?_
  refine And.intro (And.intro (by kernel_rfl) (by kernel_rfl)) ?_
  refine And.intro (And.intro (by kernel_rfl) (by kernel_rfl)) ?_
  refine And.intro (And.intro (by kernel_rfl) (by kernel_rfl)) ?_
  refine And.intro (And.intro (by kernel_rfl) (by kernel_rfl)) ?_
  refine And.intro (And.intro (by kernel_rfl) (by kernel_rfl)) ?_
  refine And.intro (And.intro (by kernel_rfl) (by kernel_rfl)) ?_
  refine And.intro (And.intro (by kernel_rfl) (by kernel_rfl)) ?_
  refine And.intro (And.intro (by kernel_rfl) (by kernel_rfl)) ?_
  refine And.intro (And.intro (by kernel_rfl) (by kernel_rfl)) ?_
  refine And.intro (And.intro (by kernel_rfl) (by kernel_rfl)) ?_
  refine And.intro (And.intro (by kernel_rfl) (by kernel_rfl)) ?_
  refine And.intro (And.intro (by kernel_rfl) (by kernel_rfl)) ?_
  refine And.intro (And.intro (by kernel_rfl) (by kernel_rfl)) ?_
  refine And.intro (And.intro (by kernel_rfl) (by kernel_rfl)) ?_
  refine And.intro (And.intro (by kernel_rfl) (by kernel_rfl)) ?_
  refine And.intro (And.intro (by kernel_rfl) (by kernel_rfl)) ?_
  refine And.intro (And.intro (by kernel_rfl) (by kernel_rfl)) ?_
  refine And.intro (And.intro (by kernel_rfl) (by kernel_rfl)) ?_
  refine And.intro (And.intro (by kernel_rfl) (by kernel_rfl)) ?_
  refine And.intro (And.intro (by kernel_rfl) (by kernel_rfl)) ?_
  refine And.intro (And.intro (by kernel_rfl) (by kernel_rfl)) ?_
  refine And.intro (And.intro (by kernel_rfl) (by kernel_rfl)) ?_
  refine And.intro (And.intro (by kernel_rfl) (by kernel_rfl)) ?_
  refine And.intro (And.intro (by kernel_rfl) (by kernel_rfl)) ?_
  refine And.intro (And.intro (by kernel_rfl) (by kernel_rfl)) ?_
  refine And.intro (And.intro (by kernel_rfl) (by kernel_rfl)) ?_
  refine And.intro (And.intro (by kernel_rfl) (by kernel_rfl)) ?_
  refine And.intro (And.intro (by kernel_rfl) (by kernel_rfl)) ?_
  refine And.intro (And.intro (by kernel_rfl) (by kernel_rfl)) ?_
  refine And.intro (And.intro (by kernel_rfl) (by kernel_rfl)) ?_
  refine And.intro (And.intro (by kernel_rfl) (by kernel_rfl)) ?_
  refine And.intro (And.intro (by kernel_rfl) (by kernel_rfl)) ?_
  refine And.intro (And.intro (by kernel_rfl) (by kernel_rfl)) ?_
  refine And.intro (And.intro (by kernel_rfl) (by kernel_rfl)) ?_
  refine And.intro (And.intro (by kernel_rfl) (by kernel_rfl)) ?_
  refine And.intro (And.intro (by kernel_rfl) (by kernel_rfl)) ?_
  refine And.intro (And.intro (by kernel_rfl) (by kernel_rfl)) ?_
  refine And.intro (And.intro (by kernel_rfl) (by kernel_rfl)) ?_
  refine And.intro (And.intro (by kernel_rfl) (by kernel_rfl)) ?_
  exact True.intro
theorem k_mg (p : Params) : mgB (hK p) = true := by kernel_rfl
theorem k_fn (p : Params) : P0.fns.all (fnB (hK p)) = true := by kernel_rfl
theorem k_cls (p : Params) : clsAll (hK p) P0 0 P0.clss = true := by kernel_rfl
theorem k_gt (p : Params) : P0.gtab.all (gtB (hK p)) = true := by kernel_rfl
theorem k_bt (p : Params) : biL.all (fun b => btB (hK p) (Str.ofString b.name) b.val) = true := by kernel_rfl
theorem k_br (p : Params) : btB (hK p) (Str.ofString "range") (.type "range") = true := by kernel_rfl
theorem k_bv (p : Params) : btB (hK p) (Str.ofString "reversed") (.type "reversed") = true := by kernel_rfl
theorem k_clg (p : Params) : clgB (hK p) P0.clss P0.clsN = true := by kernel_rfl
theorem k_fl : (P0.flds.map Str.ofString).Nodup := by
  have : decide (P0.flds.map Str.ofString).Nodup = true := by kernel_rfl
  exact of_decide_eq_true this
end Mn
end
section
namespace Mn
theorem hopens : (chainsOk hv && opensWell PySem.Challenge.rw_sa0155_03.row.prog && (frees PySem.Challenge.rw_sa0155_03.row.toRowW && PySem.Challenge.rw_sa0155_03.row.within.isEmpty)) = true := by kernel_rfl
theorem hwhole : PySem.Challenge.rw_sa0155_03.row.prog.tablesWhole = true := by kernel_rfl
theorem hsaid : PySem.Challenge.rw_sa0155_03.wellSaid = true := by
  rw [PySem.W.Fast.te9446332074065402090]
  kernel_rfl
theorem wk_ok {Γ : Wd} (W : WdOK Γ) (e : Γ.P = P0) : Wk (CallOK Γ) (NewOK Γ) := by
  refine ⟨fun {n f fi ir vs st Q} h1 h2 h3 w => ?_, fun {n c f vs st Q} h1 h2 w => ?_⟩
  · obtain ⟨b, o⟩ := allI.get f fi ir h1 h2
    rw [Bool.and_eq_true, decide_eq_true_eq, decide_eq_true_eq] at h3
    rw [← e] at h1 b o w
    exact call_ok W h1 b o h3.1 h3.2 w
  · rw [← e] at h1 h2
    exact new_ok W (List.getElem?_eq_getElem h1) h2 w
theorem hq2 : importsNone hv = true := by
  rw [PySem.W.Fast.te2458874890965802552]
  kernel_rfl
theorem hq1 : namesOk hv (looseW hv hLoose) (namesW hv hLoose) = true := by
  rw [PySem.W.Fast.te17448422675489707002, PySem.W.Fast.te821141287760084731]
  kernel_rfl
end Mn
local macro_rules | `(tactic| k_qdec) => `(tactic| first | exact Mn.hq1 | exact Mn.hq2)
theorem PySem.Challenge.cw_sa0155_03_holds : PySem.Challenge.rw_sa0155_03.Holds := by
  open Mn in
  refine holds_law hsaid fun said => ?_
  open Mn in
  refine holds_open (q := hv) (loose := hLoose) (Xt := hX) (XP := XL hv []) (Yf := Hook.obs (kHook hK hKa hKas)) (Ya := Hook.val (kHook hK hKa hKas)) (YP := Hook.says (kHook hK hKa hKas)) (N := 6402) hleft (Hook.of (kHook hK hKa hKas)) (Hook.keeps (kHook hK hKa hKas)) (fun s e => xl_of s (Bool.and_eq_true_iff.mp e).1) XL.keeps (by rfl) (by rfl) (by rfl) (fun s e => recFacts_of (Bool.and_eq_true_iff.mp e).2) (by rfl) said hopens ⟨rfl, rfl, rfl, rfl, rfl, hwhole⟩ ?hw ?hc
  case hw => w_witness2
  case hc =>
    k_go0
    rename_i w s0 s1 mg mb G Y fa o pm doc kV ho hg KX X V GL T B TE TW w9 w8 M w7 w6 hcd ns hsh hlay hL1 hr1 hl2 w4 w3 L vs w1 hL ra wl r0 hI hr hc1 hc2 K0 hD h1 F N0
    open Mn in
    let Γ : Wd := ⟨PySem.Challenge.rw_sa0155_03.row.prog, w, s1.heap, hK w.params, mg, mb, P0, 0⟩
    open Mn in
    have WW : WdOK Γ := wd_ok (Γ := Γ) KX T.g T.b T.nolimit T.builtins (k_mg _) (k_fn _) (allB _) (k_cls _) (k_gt _) (k_bt _) (k_br _) (k_bv _) (k_clg _) k_fl
    open Mn in
    refine wpAny_mono (law_entry (Γ := Γ) WW (x0 := "script") (nr := nsL.tail) (ir := irL) (n := 100) rfl rfl rfl rfl rfl (by kernel_rfl) ?_ hL hI F ?_ ?_ (run03 (wk_ok WW rfl) 91 ns (by omega))) ?_ ?_
    · kernel_rfl
    · kernel_rfl
    · exact ⟨rfl, (by decide : 1 + claimMargin + 1 + 100 ≤ recursionLimit), (by decide : 4 + 3 + 8 * 100 + 40 ≤ cLine)⟩
    · rintro fl s' ⟨rfl, hk, tk, hs'⟩
      have F' : Fr s1.heap s1.heap.objs.size h1 _ := F
      refine ⟨.inl ⟨.bool true, .bool true, [], rfl, ?_, .bool true, ?_, ?_⟩, hk, ?_, ?_⟩
      · intro cls; rfl
      · exact postW_of (by kernel_rfl) (X := true) (by kernel_rfl) rfl
      · exact fun _ => ⟨List.nodup_nil, fun a ha => nomatch ha⟩
      · rw [hs']
      · rw [hs']; exact hg
    · exact fun _ _ e => e.elim
end
