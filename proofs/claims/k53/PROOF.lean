import PyProof.Rows.All
import Wide.All
import OpenK.AllK
import Wide.FinOn
import HandS.ForMost
import HandS.Exc
import HandS.ExcOwn
import HandS.WordsExc
import HandS.Walk
import HandS.Deep
import KE.KDictKeyed
import KE.KDictWalk
import HandS.CallSlots
import HandS.TupAny
import HandS.TupLe
import HandS.TupMul
import HandS.Style
import HandS.Replace
import HandS.IsInst
import HandS.Conv
import PyProof.CollectStr
import PyProof.ListStr
import HandS.More
import PyProof.Rows.SetFrom
import PyProof.SetRoads
import PyProof.StrLoop
import KE.KRevSl
import KE.GoesNew
import KE.GoesMore
import PyProof.EnumMake
import KE.DataMinMax
import HandS.Wide
import HandS.ExcIs
import HandS.List
import HandS.Iter
import PyProof.Rows.StrStrike
import HandS.ReplaceDef
import HandS.SetFor
import HandS.Strs
import HandS.Dict
import KE.KDictOf
import KE.KDictDisplayH
import KE.KDictCopyH
import HandS.TupSets
import PySem.Challenge.RW_carlanes_k53_whole_doubled
set_option Elab.async false
set_option linter.all false
set_option maxRecDepth 100000
namespace CL
open PySem PySem.Spec PyProof.Rows L2

/-! ### plain data, results -/
inductive D where
  | non | bl (b : Bool) | int (i : Int) | str (s : List Nat) | lst (l : List D) | tup (l : List D) | dct (l : List (D × D)) | opq (n : Nat) (l : List D)
  deriving Inhabited
inductive R (α : Type) where
  | ok (a : α) | exc (n : Nat) | bad
def R.bind {α β : Type} (x : R α) (k : α → R β) : R β := match x with
  | .ok a => k a
  | .exc n => .exc n
  | .bad => .bad
def R.wp {α : Type} (x : R α) (P : α → Prop) (E : Nat → Prop) : Prop := match x with
  | .ok a => P a
  | .exc n => E n
  | .bad => False
@[simp] theorem R.ok_bind {α β : Type} (a : α) (k : α → R β) : (R.ok a).bind k = k a := rfl
@[simp] theorem R.exc_bind {α β : Type} (n : Nat) (k : α → R β) : (R.exc n : R α).bind k = .exc n := rfl
@[simp] theorem R.bad_bind {α β : Type} (k : α → R β) : (R.bad : R α).bind k = .bad := rfl
theorem R.wp_bind {α β : Type} {x : R α} {k : α → R β} {P : β → Prop} {E : Nat → Prop} (h : (x.bind k).wp P E) : x.wp (fun a => (k a).wp P E) E := by
  cases x <;> exact h
theorem R.wp_mono {α : Type} {x : R α} {P P' : α → Prop} {E E' : Nat → Prop} (h : x.wp P E) (hp : ∀ a, x = .ok a → P a → P' a) (he : ∀ n, E n → E' n) : x.wp P' E' := by
  cases x with
  | ok a => exact hp a rfl h
  | exc n => exact he n h
  | bad => exact h

/-- the module: the written part, the globals, the script, the exception classes -/
structure Md where
  K : PySem.W.Frag
  mg : Str → Option Value
  ns : List Int
  xc : Nat → Addr
  xa : Addr → Prop := fun _ => False
  hk : NestedKey → Int := fun _ => 0

abbrev lim : Nat := 16777216
theorem lim_eq : sizeLine = lim := sizeLine_eq
def strOk (s : List Nat) : Prop := s.length ≤ lim ∧ ∀ c ∈ s, c < 0x110000

/-- a dict, by its one object -/
def DctO (a : Addr) (es : Array DictEntry) (ep : Nat) : HO := .ext fun h => h.DictRaw a es ep ∧ (a == sysModules) = false
mutual
/-- data as a key -/
def nk : D → Option NestedKey
  | .int i => some (.num i)
  | .str s => some (.text ⟨s.toArray⟩)
  | .tup l => (nks l).map .tup
  | _ => none
def nks : List D → Option (List NestedKey)
  | [] => some []
  | d :: l => match nk d, nks l with
    | some k, some ks => some (k :: ks)
    | _, _ => none
end
mutual
inductive Rep (M : Md) (F : Addr → Prop) (H : Hp) : V → D → Prop
  | non : Rep M F H .non .non
  | bl (b : Bool) : Rep M F H (.bl b) (.bl b)
  | int (i : Int) : Rep M F H (.int i) (.int i)
  | str {s : List Nat} : strOk s → Rep M F H (.str ⟨s.toArray⟩) (.str s)
  | lst {a : Addr} {xs : List V} {ds : List D} : F a → H a = some (.lst xs) → RepAll M F H xs ds → Rep M F H (.ref a) (.lst ds)
  | tup {a : Addr} {xs : List V} {ds : List D} : H a = some (.tup xs) → RepAll M F H xs ds → Rep M F H (.ref a) (.tup ds)
  | scr {a : Addr} : ((∃ o, H a = some (.frz o (.lst (M.ns.map V.int)))) ∨ ∀ H', SqL M.K H' a (M.ns.map V.int)) → Rep M F H (.ref a) (.opq 0 [])
  | fn {f : Addr} {x : Str} {s : List Nat} : M.mg x = some (.ref f) → x.cps.toList = s → Rep M F H (.ref f) (.opq 1 [.str s])
  | raw {a : Addr} : M.xa a → Rep M F H (.ref a) (.opq 2 [])
  | dct {a : Addr} {es : Array DictEntry} {ep : Nat} {kds : List (D × D)} : F a → H a = some (DctO a es ep) → RepEs M F H es.toList kds → Rep M F H (.ref a) (.dct kds)
inductive RepAll (M : Md) (F : Addr → Prop) (H : Hp) : List V → List D → Prop
  | nil : RepAll M F H [] []
  | cons {v : V} {vs : List V} {d : D} {ds : List D} : Rep M F H v d → RepAll M F H vs ds → RepAll M F H (v :: vs) (d :: ds)
inductive RepEs (M : Md) (F : Addr → Prop) (H : Hp) : List DictEntry → List (D × D) → Prop
  | nil : RepEs M F H [] []
  | cons {b : Addr} {i : Int} {t : Tok} {k : NestedKey} {d : D} {es : List DictEntry} {kds : List (D × D)} : nk d = some k → k.depth ≤ 8 → (∀ p ∈ kds, nk p.1 ≠ some k) → Rep M F H (.ref b) d → RepEs M F H es kds → RepEs M F H (⟨M.hk k, .ref b, .int i t⟩ :: es) ((d, .int i) :: kds)
end

def Keep (F : Addr → Prop) (H H' : Hp) : Prop :=
  (∀ a xs, F a → H a = some xs → H' a = some xs) ∧ (∀ a xs, H a = some (.tup xs) → H' a = some (.tup xs)) ∧ (∀ a o u, H a = some (.frz o u) → H' a = some (.frz o u))
def Grow (F : Addr → Prop) (H : Hp) (F' : Addr → Prop) (H' : Hp) : Prop :=
  (∀ a o, H a = some o → H' a = some o) ∧ (∀ a, F a → F' a) ∧ (∀ a, F' a → F a ∨ H a = none) ∧ (∀ a, F' a → ∃ o, H' a = some o)
def Dom (F : Addr → Prop) (H : Hp) : Prop := ∀ a, F a → ∃ o, H a = some o

section
variable {M : Md} {F F' F'' : Addr → Prop} {H H' H'' : Hp} {v : V} {d : D}
mutual
theorem Rep.mono (k : Keep F H H') (hf : ∀ a, F a → F' a) : ∀ {v : V} {d : D}, Rep M F H v d → Rep M F' H' v d
  | _, _, .non => .non
  | _, _, .bl b => .bl b
  | _, _, .int i => .int i
  | _, _, .str h => .str h
  | _, _, .lst h1 h2 h3 => .lst (hf _ h1) (k.1 _ _ h1 h2) (RepAll.mono k hf h3)
  | _, _, .tup h2 h3 => .tup (k.2.1 _ _ h2) (RepAll.mono k hf h3)
  | _, _, .scr h => .scr (h.imp (fun ⟨o, e⟩ => ⟨o, k.2.2 _ _ _ e⟩) fun e => e)
  | _, _, .fn h e => .fn h e
  | _, _, .raw h => .raw h
  | _, _, .dct h1 h2 h3 => .dct (hf _ h1) (k.1 _ _ h1 h2) (RepEs.mono k hf h3)
theorem RepAll.mono (k : Keep F H H') (hf : ∀ a, F a → F' a) : ∀ {vs : List V} {ds : List D}, RepAll M F H vs ds → RepAll M F' H' vs ds
  | _, _, .nil => .nil
  | _, _, .cons h t => .cons (Rep.mono k hf h) (RepAll.mono k hf t)
theorem RepEs.mono (k : Keep F H H') (hf : ∀ a, F a → F' a) : ∀ {es : List DictEntry} {kds : List (D × D)}, RepEs M F H es kds → RepEs M F' H' es kds
  | _, _, .nil => .nil
  | _, _, .cons e e2 e3 h t => .cons e e2 e3 (Rep.mono k hf h) (RepEs.mono k hf t)
end
theorem Grow.keep (g : Grow F H F' H') : Keep F H H' := ⟨fun a xs _ e => g.1 a _ e, fun a xs e => g.1 a _ e, fun a o u e => g.1 a _ e⟩
theorem Grow.dom (g : Grow F H F' H') : Dom F' H' := g.2.2.2
theorem Grow.refl (h : Dom F H) : Grow F H F H := ⟨fun _ _ e => e, fun _ e => e, fun _ e => .inl e, h⟩
theorem Grow.trans (g : Grow F H F' H') (g' : Grow F' H' F'' H'') : Grow F H F'' H'' := by
  refine ⟨fun a o e => g'.1 a o (g.1 a o e), fun a e => g'.2.1 a (g.2.1 a e), fun a e => ?_, g'.2.2.2⟩
  rcases g'.2.2.1 a e with e | e
  · exact g.2.2.1 a e
  · right
    cases q : H a with
    | none => rfl
    | some o => rw [g.1 a o q] at e; cases e
theorem Rep.grow (r : Rep M F H v d) (g : Grow F H F' H') : Rep M F' H' v d := r.mono g.keep g.2.1
theorem RepEs.grow {es : List DictEntry} {kds : List (D × D)} (r : RepEs M F H es kds) (g : Grow F H F' H') : RepEs M F' H' es kds := r.mono g.keep g.2.1
theorem RepAll.grow {vs : List V} {ds : List D} (r : RepAll M F H vs ds) (g : Grow F H F' H') : RepAll M F' H' vs ds := r.mono g.keep g.2.1
/-- a new list, a new tuple -/
theorem Grow.newL {p : Addr} {o : HO} (h : Dom F H) (hp : H p = none) : Grow F H (fun a => F a ∨ a = p) (upd H p o) := by
  refine ⟨fun a u e => ?_, fun a e => .inl e, fun a e => ?_, fun a e => ?_⟩
  · rw [upd_ne (ne_of_none e hp)]; exact e
  · rcases e with e | e
    · exact .inl e
    · subst e; exact .inr hp
  · rcases e with e | e
    · obtain ⟨u, q⟩ := h a e
      exact ⟨u, by rw [upd_ne (ne_of_none q hp)]; exact q⟩
    · subst e; exact ⟨_, upd_same⟩
theorem Grow.newT {p : Addr} {o : HO} (h : Dom F H) (hp : H p = none) : Grow F H F (upd H p o) := by
  refine ⟨fun a u e => ?_, fun a e => e, fun a e => .inl e, fun a e => ?_⟩
  · rw [upd_ne (ne_of_none e hp)]; exact e
  · obtain ⟨u, q⟩ := h a e
    exact ⟨u, by rw [upd_ne (ne_of_none q hp)]; exact q⟩
end

/-! ### lists of values -/
section
variable {M : Md} {F : Addr → Prop} {H : Hp}
theorem RepAll.length : ∀ {vs : List V} {ds : List D}, RepAll M F H vs ds → vs.length = ds.length
  | _, _, .nil => rfl
  | _, _, .cons _ t => by simp [RepAll.length t]
theorem RepAll.get : ∀ {vs : List V} {ds : List D} {i : Nat} {d : D}, RepAll M F H vs ds → ds[i]? = some d → ∃ v, vs[i]? = some v ∧ Rep M F H v d
  | _, _, _, _, .nil, e => by simp at e
  | _, _, 0, _, .cons r _, e => by simp at e; subst e; exact ⟨_, rfl, r⟩
  | _, _, i + 1, d, .cons _ t, e => by
    obtain ⟨u, h1, h2⟩ := RepAll.get (i := i) (d := d) t (by simpa using e)
    exact ⟨u, by simpa using h1, h2⟩
theorem RepAll.get' : ∀ {vs : List V} {ds : List D} {i : Nat} {v : V}, RepAll M F H vs ds → vs[i]? = some v → ∃ d, ds[i]? = some d ∧ Rep M F H v d
  | _, _, _, _, .nil, e => by simp at e
  | _, _, 0, _, .cons r _, e => by simp at e; subst e; exact ⟨_, rfl, r⟩
  | _, _, i + 1, d, .cons _ t, e => by
    obtain ⟨u, h1, h2⟩ := RepAll.get' (i := i) (v := d) t (by simpa using e)
    exact ⟨u, by simpa using h1, h2⟩
theorem RepAll.append : ∀ {vs vs' : List V} {ds ds' : List D}, RepAll M F H vs ds → RepAll M F H vs' ds' → RepAll M F H (vs ++ vs') (ds ++ ds')
  | _, _, _, _, .nil, s => s
  | _, _, _, _, .cons r t, s => .cons r (RepAll.append t s)
theorem RepAll.take : ∀ {vs : List V} {ds : List D} (n : Nat), RepAll M F H vs ds → RepAll M F H (vs.take n) (ds.take n)
  | _, _, 0, _ => by simp; exact .nil
  | _, _, _ + 1, .nil => .nil
  | _, _, n + 1, .cons r t => .cons r (RepAll.take n t)
theorem RepAll.drop : ∀ {vs : List V} {ds : List D} (n : Nat), RepAll M F H vs ds → RepAll M F H (vs.drop n) (ds.drop n)
  | _, _, 0, r => r
  | _, _, _ + 1, .nil => .nil
  | _, _, n + 1, .cons _ t => RepAll.drop n t
theorem RepAll.set {v : V} {d : D} (r : Rep M F H v d) : ∀ {vs : List V} {ds : List D} (i : Nat), RepAll M F H vs ds → RepAll M F H (vs.set i v) (ds.set i d)
  | _, _, _, .nil => .nil
  | _, _, 0, .cons _ t => .cons r t
  | _, _, i + 1, .cons q t => .cons q (RepAll.set r i t)
theorem RepAll.erase : ∀ {vs : List V} {ds : List D} (i : Nat), RepAll M F H vs ds → RepAll M F H (vs.eraseIdx i) (ds.eraseIdx i)
  | _, _, _, .nil => .nil
  | _, _, 0, .cons _ t => t
  | _, _, i + 1, .cons q t => .cons q (RepAll.erase i t)
theorem RepAll.reverse {vs : List V} {ds : List D} (r : RepAll M F H vs ds) : RepAll M F H vs.reverse ds.reverse := by
  induction vs generalizing ds with
  | nil => cases r; exact .nil
  | cons v vs ih =>
    cases r with
    | cons h t =>
      rw [List.reverse_cons, List.reverse_cons]
      exact (ih t).append (.cons h .nil)
theorem RepAll.rep {vs : List V} {ds : List D} (r : RepAll M F H vs ds) : ∀ n : Nat, RepAll M F H (List.replicate n vs).flatten (List.replicate n ds).flatten
  | 0 => .nil
  | n + 1 => by
    rw [List.replicate_succ, List.replicate_succ, List.flatten_cons, List.flatten_cons]
    exact r.append (RepAll.rep r n)
theorem RepAll.cutV {vs : List V} {ds : List D} (r : RepAll M F H vs ds) (i n : Nat) : RepAll M F H ((vs.drop i).take n) ((ds.drop i).take n) := (r.drop i).take n
theorem RepAll.strs : ∀ {vs : List V} {ss : List (List Nat)}, RepAll M F H vs (ss.map D.str) → vs = (ss.map fun s => (⟨s.toArray⟩ : Str)).map V.str ∧ ∀ s ∈ ss, strOk s
  | vs, [], r => by cases r; exact ⟨rfl, by simp⟩
  | vs, s :: ss, r => by
    cases r with
    | cons h t =>
      obtain ⟨e, q⟩ := RepAll.strs t
      cases h with
      | str ok => exact ⟨by rw [e]; rfl, by intro s' hs; rcases List.mem_cons.mp hs with z | z; exact z ▸ ok; exact q s' z⟩
theorem RepAll.of_strs : ∀ {ss : List (List Nat)}, (∀ s ∈ ss, strOk s) → RepAll M F H ((ss.map fun s => (⟨s.toArray⟩ : Str)).map V.str) (ss.map D.str)
  | [], _ => .nil
  | s :: ss, h => .cons (.str (h s List.mem_cons_self)) (RepAll.of_strs fun s' hs => h s' (List.mem_cons_of_mem _ hs))
theorem RepAll.ints : ∀ {vs : List V} {ss : List Int}, RepAll M F H vs (ss.map D.int) → vs = ss.map V.int
  | vs, [], r => by cases r; rfl
  | vs, s :: ss, r => by
    cases r with
    | cons h t =>
      cases h
      rw [RepAll.ints t]; rfl
theorem RepAll.of_ints : ∀ {ss : List Int}, RepAll M F H (ss.map V.int) (ss.map D.int)
  | [] => .nil
  | s :: ss => .cons (.int s) RepAll.of_ints
theorem RepAll.bls : ∀ {vs : List V} {ss : List Bool}, RepAll M F H vs (ss.map D.bl) → vs = ss.map V.bl
  | vs, [], r => by cases r; rfl
  | vs, s :: ss, r => by
    cases r with
    | cons h t =>
      cases h
      rw [RepAll.bls t]; rfl
end

/-! ### borrowed values: a list may be one that its holder still changes -/
def RepB (M : Md) (F : Addr → Prop) (H : Hp) (v : V) (d : D) : Prop := match d with
  | .lst ds => ∃ p vs, v = .ref p ∧ H p = some (.lst vs) ∧ RepAll M F H vs ds
  | .dct kds => ∃ p es ep, v = .ref p ∧ H p = some (DctO p es ep) ∧ RepEs M F H es.toList kds
  | d => Rep M F H v d
theorem Rep.b {M : Md} {F : Addr → Prop} {H : Hp} {v : V} {d : D} (r : Rep M F H v d) : RepB M F H v d := by
  cases d with
  | lst ds => cases r with | lst h1 h2 h3 => exact ⟨_, _, rfl, h2, h3⟩
  | dct ds => cases r with | dct h1 h2 h3 => exact ⟨_, _, _, rfl, h2, h3⟩
  | _ => exact r
theorem RepB.grow {M : Md} {F F' : Addr → Prop} {H H' : Hp} {v : V} {d : D} (r : RepB M F H v d) (g : Grow F H F' H') : RepB M F' H' v d := by
  cases d with
  | lst ds => obtain ⟨p, vs, e, h, r⟩ := r; exact ⟨p, vs, e, g.1 _ _ h, r.grow g⟩
  | dct ds => obtain ⟨p, es, ep, e, h, r⟩ := r; exact ⟨p, es, ep, e, g.1 _ _ h, r.grow g⟩
  | _ => exact Rep.grow (show Rep M F H v _ from r) g

/-! ### a frame's slots -/
abbrev DEnv := List (Option D)
def Own (M : Md) (F : Addr → Prop) (H : Hp) (p : Addr) : D → Prop
  | .lst ds => ∃ vs, H p = some (.lst vs) ∧ RepAll M F H vs ds
  | .dct kds => ∃ es ep, H p = some (DctO p es ep) ∧ RepEs M F H es.toList kds
  | _ => False
structure EInv (M : Md) (O : List Nat) (F : Addr → Prop) (H : Hp) (σ : L2.St) (δ : DEnv) : Prop where
  len : σ.length = δ.length
  dom : Dom F H
  fr : ∀ i d, i ∉ O → δ[i]? = some (some d) → ∃ v, σ[i]? = some (some v) ∧ Rep M F H v d
  own : ∀ i d, i ∈ O → δ[i]? = some (some d) → ∃ p, σ[i]? = some (some (.ref p)) ∧ ¬ F p ∧ Own M F H p d
  sep : ∀ i j p d e, i ∈ O → j ∈ O → δ[i]? = some (some d) → δ[j]? = some (some e) → σ[i]? = some (some (.ref p)) → σ[j]? = some (some (.ref p)) → i = j
section
variable {M : Md} {O : List Nat} {F F' : Addr → Prop} {H H' : Hp} {σ : L2.St} {δ : DEnv}
theorem Own.there {p : Addr} {d : D} (o : Own M F H p d) : ∃ x, H p = some x := by
  cases d with
  | lst ds => obtain ⟨vs, h, _⟩ := o; exact ⟨_, h⟩
  | dct ds => obtain ⟨es, ep, h, _⟩ := o; exact ⟨_, h⟩
  | _ => exact o.elim
theorem Own.grow {p : Addr} {d : D} (o : Own M F H p d) (g : Grow F H F' H') : Own M F' H' p d := by
  cases d with
  | lst ds => obtain ⟨vs, h, r⟩ := o; exact ⟨vs, g.1 _ _ h, r.grow g⟩
  | dct ds => obtain ⟨es, ep, h, r⟩ := o; exact ⟨es, ep, g.1 _ _ h, r.grow g⟩
  | _ => exact o.elim
theorem EInv.grow (I : EInv M O F H σ δ) (g : Grow F H F' H') : EInv M O F' H' σ δ := by
  refine ⟨I.len, g.dom, fun i d hi e => ?_, fun i d hi e => ?_, I.sep⟩
  · obtain ⟨v, e1, r⟩ := I.fr i d hi e
    exact ⟨v, e1, r.grow g⟩
  · obtain ⟨p, e1, nf, o⟩ := I.own i d hi e
    refine ⟨p, e1, fun z => ?_, o.grow g⟩
    rcases g.2.2.1 p z with q | q
    · exact nf q
    · obtain ⟨x, hx⟩ := o.there
      rw [hx] at q; cases q
/-- a slot given a new value that is not held by an owner -/
theorem EInv.set (I : EInv M O F H σ δ) {i : Nat} {v : V} {d : D} (r : Rep M F H v d) : EInv M (O.filter (· != i)) F H (σ.set i (some v)) (δ.set i (some d)) := by
  have mem : ∀ j, j ∈ O.filter (· != i) → j ∈ O ∧ j ≠ i := fun j hj => by
    obtain ⟨h1, h2⟩ := List.mem_filter.mp hj
    exact ⟨h1, by simpa using h2⟩
  refine ⟨by simp [I.len], I.dom, fun j e hj q => ?_, fun j e hj q => ?_, fun j k p e e' hj hk q q' z z' => ?_⟩
  · by_cases hji : j = i
    · subst hji
      have hl : j < δ.length := by
        have := (List.getElem?_eq_some_iff.mp q).1
        simpa using this
      rw [List.getElem?_set_self hl] at q
      cases q
      exact ⟨v, by rw [List.getElem?_set_self (by rw [I.len]; exact hl)], r⟩
    · rw [List.getElem?_set_ne (Ne.symm hji)] at q
      rw [List.getElem?_set_ne (Ne.symm hji)]
      exact I.fr j e (fun z => hj (List.mem_filter.mpr ⟨z, by simpa using hji⟩)) q
  · obtain ⟨h1, h2⟩ := mem j hj
    rw [List.getElem?_set_ne (Ne.symm h2)] at q
    rw [List.getElem?_set_ne (Ne.symm h2)]
    exact I.own j e h1 q
  · obtain ⟨h1, h2⟩ := mem j hj
    obtain ⟨h3, h4⟩ := mem k hk
    rw [List.getElem?_set_ne (Ne.symm h2)] at q z
    rw [List.getElem?_set_ne (Ne.symm h4)] at q' z'
    exact I.sep j k p e e' h1 h3 q q' z z'
/-- a slot that now owns a new list -/
theorem EInv.setOwn (I : EInv M O F H σ δ) {i : Nat} {p : Addr} {d : D} (nf : ¬ F p) (o : Own M F H p d) (new : ∀ j e, j ∈ O → δ[j]? = some (some e) → j ≠ i → σ[j]? ≠ some (some (.ref p))) :
    EInv M (i :: O) F H (σ.set i (some (.ref p))) (δ.set i (some d)) := by
  have slf : ∀ e, (δ.set i (some d))[i]? = some (some e) → e = d ∧ i < δ.length := fun e q => by
    have hl : i < δ.length := by
      have := (List.getElem?_eq_some_iff.mp q).1
      simpa using this
    rw [List.getElem?_set_self hl] at q
    cases q
    exact ⟨rfl, hl⟩
  refine ⟨by simp [I.len], I.dom, fun j e hj q => ?_, fun j e hj q => ?_, fun j k p' e e' hj hk q q' z z' => ?_⟩
  · have hji : j ≠ i := fun z => hj (by simp [z])
    rw [List.getElem?_set_ne (Ne.symm hji)] at q
    rw [List.getElem?_set_ne (Ne.symm hji)]
    exact I.fr j e (fun z => hj (List.mem_cons_of_mem _ z)) q
  · by_cases hji : j = i
    · subst hji
      obtain ⟨rfl, hl⟩ := slf e q
      exact ⟨p, by rw [List.getElem?_set_self (by rw [I.len]; exact hl)], nf, o⟩
    · rw [List.getElem?_set_ne (Ne.symm hji)] at q
      rw [List.getElem?_set_ne (Ne.symm hji)]
      exact I.own j e ((List.mem_cons.mp hj).resolve_left hji) q
  · by_cases hji : j = i <;> by_cases hki : k = i
    · rw [hji, hki]
    · subst hji
      obtain ⟨rfl, hl⟩ := slf e q
      rw [List.getElem?_set_self (by rw [I.len]; exact hl)] at z
      cases z
      rw [List.getElem?_set_ne (Ne.symm hki)] at q' z'
      exact absurd z' (new k e' ((List.mem_cons.mp hk).resolve_left hki) q' hki)
    · subst hki
      obtain ⟨rfl, hl⟩ := slf e' q'
      rw [List.getElem?_set_self (by rw [I.len]; exact hl)] at z'
      cases z'
      rw [List.getElem?_set_ne (Ne.symm hji)] at q z
      exact absurd z (new j e ((List.mem_cons.mp hj).resolve_left hji) q hji)
    · rw [List.getElem?_set_ne (Ne.symm hji)] at q z
      rw [List.getElem?_set_ne (Ne.symm hki)] at q' z'
      exact I.sep j k p' e e' ((List.mem_cons.mp hj).resolve_left hji) ((List.mem_cons.mp hk).resolve_left hki) q q' z z'
/-- an owner lets go: its list is shared from now on -/
theorem EInv.drop (I : EInv M O F H σ δ) (i : Nat) : ∃ F', (∀ a, F a → F' a) ∧ (∀ a, F' a → F a ∨ (∃ d, i ∈ O ∧ δ[i]? = some (some d) ∧ σ[i]? = some (some (.ref a)))) ∧ EInv M (O.filter (· != i)) F' H σ δ := by
  have mem : ∀ j, j ∈ O.filter (· != i) → j ∈ O ∧ j ≠ i := fun j hj => by
    obtain ⟨h1, h2⟩ := List.mem_filter.mp hj
    exact ⟨h1, by simpa using h2⟩
  let F' : Addr → Prop := fun a => F a ∨ (∃ d, i ∈ O ∧ δ[i]? = some (some d) ∧ σ[i]? = some (some (.ref a)))
  have up : ∀ a, F a → F' a := fun a h => .inl h
  have kp : Keep F H H := ⟨fun _ _ _ e => e, fun _ _ e => e, fun _ _ _ e => e⟩
  refine ⟨F', up, fun a h => h, I.len, fun a h => ?_, fun j d hj q => ?_, fun j d hj q => ?_, fun j k p e e' hj hk => I.sep j k p e e' (mem j hj).1 (mem k hk).1⟩
  · rcases h with h | ⟨d, h1, h2, h3⟩
    · exact I.dom a h
    · obtain ⟨p, e1, _, o⟩ := I.own i d h1 h2
      rw [h3] at e1; cases e1
      exact o.there
  · by_cases hji : j = i
    · subst hji
      by_cases hO : j ∈ O
      · obtain ⟨p, e1, nf, o⟩ := I.own j d hO q
        cases d with
        | lst ds =>
          obtain ⟨vs, h1, h2⟩ := o
          exact ⟨.ref p, e1, .lst (.inr ⟨_, hO, q, e1⟩) h1 (h2.mono kp up)⟩
        | dct ds =>
          obtain ⟨es, ep, h1, h2⟩ := o
          exact ⟨.ref p, e1, .dct (.inr ⟨_, hO, q, e1⟩) h1 (h2.mono kp up)⟩
        | _ => exact o.elim
      · obtain ⟨v, e1, r⟩ := I.fr j d hO q
        exact ⟨v, e1, r.mono kp up⟩
    · obtain ⟨v, e1, r⟩ := I.fr j d (fun z => hj (List.mem_filter.mpr ⟨z, by simpa using hji⟩)) q
      exact ⟨v, e1, r.mono kp up⟩
  · obtain ⟨h1, h2⟩ := mem j hj
    obtain ⟨p, e1, nf, o⟩ := I.own j d h1 q
    refine ⟨p, e1, fun z => ?_, ?_⟩
    · rcases z with z | ⟨e, z1, z2, z3⟩
      · exact nf z
      · exact h2 (I.sep j i p d e h1 z1 q z2 e1 z3)
    · cases d with
      | lst ds =>
        obtain ⟨vs, q1, q2⟩ := o
        exact ⟨vs, q1, q2.mono kp up⟩
      | dct ds =>
        obtain ⟨es, ep, q1, q2⟩ := o
        exact ⟨es, ep, q1, q2.mono kp up⟩
      | _ => exact o.elim
end
end CL

namespace CL
open PySem PySem.Spec PyProof.Rows L2

/-! ### readings over data -/
theorem pe_imp {X : Cx} {e : Expr} {t t' : TE} (h : PE X e t) (i : ∀ σ H Q, t' σ H Q → t σ H Q) : PE X e t' := ⟨fun pins s σ H Q I q => h.run pins s σ H Q I (i σ H Q q)⟩
theorem pt_imp {X : Cx} {e : Expr} {t t' : TT} (h : PT X e t) (i : ∀ σ H Q, t' σ H Q → t σ H Q) : PT X e t' := ⟨fun pins s σ H Q I q => h.run pins s σ H Q I (i σ H Q q)⟩
theorem pa_imp {X : Cx} {e : List Expr} {t t' : TA} (h : PA X e t) (i : ∀ σ H Q, t' σ H Q → t σ H Q) : PA X e t' := ⟨fun pos pins s σ H Q I q => h.run pos pins s σ H Q I (i σ H Q q)⟩

abbrev PR := (Addr → Prop) → Hp → V → D → Prop
def tE (M : Md) (W : WX) (O : List Nat) (P : PR) (f : DEnv → R D) : TE := fun σ H Q => ∃ δ F, EInv M O F H σ δ ∧
  (f δ).wp (fun d => ∀ v H' F', Grow F H F' H' → P F' H' v d → Q v H') (fun n => ∀ H' F', Grow F H F' H' → W (.ref (M.xc n)) none σ H')
abbrev tD (M : Md) (W : WX) (O : List Nat) (f : DEnv → R D) : TE := tE M W O (Rep M) f
abbrev tB (M : Md) (W : WX) (O : List Nat) (f : DEnv → R D) : TE := tE M W O (RepB M) f
def tT (M : Md) (W : WX) (O : List Nat) (f : DEnv → R Bool) : TT := fun σ H Q => ∃ δ F, EInv M O F H σ δ ∧
  (f δ).wp (fun b => ∀ H' F', Grow F H F' H' → Q b H') (fun n => ∀ H' F', Grow F H F' H' → W (.ref (M.xc n)) none σ H')
inductive All2 (P : V → D → Prop) : List V → List D → Prop
  | nil : All2 P [] []
  | cons {v vs d ds} : P v d → All2 P vs ds → All2 P (v :: vs) (d :: ds)
theorem All2.imp {P P' : V → D → Prop} (h : ∀ v d, P v d → P' v d) : ∀ {vs : List V} {ds : List D}, All2 P vs ds → All2 P' vs ds
  | _, _, .nil => .nil
  | _, _, .cons a b => .cons (h _ _ a) (All2.imp h b)
theorem All2.rep {M : Md} {F : Addr → Prop} {H : Hp} : ∀ {vs : List V} {ds : List D}, All2 (Rep M F H) vs ds → RepAll M F H vs ds
  | _, _, .nil => .nil
  | _, _, .cons a b => .cons a (All2.rep b)
def tA (M : Md) (W : WX) (O : List Nat) (P : PR) (f : DEnv → R (List D)) : TA := fun σ H Q => ∃ δ F, EInv M O F H σ δ ∧
  (f δ).wp (fun ds => ∀ vs H' F', Grow F H F' H' → All2 (P F' H') vs ds → Q vs H') (fun n => ∀ H' F', Grow F H F' H' → W (.ref (M.xc n)) none σ H')

section
variable {X : Cx} {M : Md} {W : WX} {O : List Nat} {P : PR} {e a b : Expr} {f g : DEnv → R D} {pos : Pos}

/-- what can be shared can be borrowed -/
theorem sb (h : PE X e (tD M W O f)) : PE X e (tB M W O f) := pe_imp h fun σ H Q ⟨δ, F, I, w⟩ =>
  ⟨δ, F, I, R.wp_mono w (fun d _ q v H' F' g r => q v H' F' g r.b) fun _ q => q⟩

/-- one expression, then what is asked of its value -/
theorem tE.one {σ : L2.St} {H : Hp} {δ : DEnv} {F : Addr → Prop} {β : Type} {k : D → R β} {P' : β → Prop} {Q : VK} (I : EInv M O F H σ δ)
    (w : ((f δ).bind k).wp P' (fun n => ∀ H' F', Grow F H F' H' → W (.ref (M.xc n)) none σ H'))
    (h : ∀ d v H' F', f δ = .ok d → Grow F H F' H' → P F' H' v d → (k d).wp P' (fun n => ∀ H' F', Grow F H F' H' → W (.ref (M.xc n)) none σ H') → Q v H') : tE M W O P f σ H Q :=
  ⟨δ, F, I, R.wp_mono (R.wp_bind w) (fun d ed q v H' F' g r => h d v H' F' ed g r q) fun _ q => q⟩

/-! ### names, constants -/
def getV (i : Nat) (δ : DEnv) : R D := match δ[i]? with
  | some (some d) => .ok d
  | _ => .bad
theorem getV_ok {i : Nat} {δ : DEnv} {Q : D → Prop} {E : Nat → Prop} (w : (getV i δ).wp Q E) : ∃ d, δ[i]? = some (some d) ∧ Q d := by
  unfold getV at w
  split at w
  · exact ⟨_, by assumption, w⟩
  · exact w.elim
theorem sd_var (i : Nat) {x : Str} (hO : (O.contains i) = false := by rfl) (hN : X.N[i]? = some x := by rfl) (hv : Vis X.env.scope x := by first | exact Or.inl rfl | exact Or.inr (Or.inl rfl) | exact Or.inr (Or.inr rfl)) (hd : (x == ("__debug__" : Str)) = false := by decide)
    (hcd : (x == ("__classdict__" : Str)) = false := by decide) : PE X (.Name x pos) (tD M W O (getV i)) := pe_imp (pe_var hN hv hd hcd) fun σ H Q ⟨δ, F, I, w⟩ => by
  obtain ⟨d, e, q⟩ := getV_ok w
  obtain ⟨v, e1, r⟩ := I.fr i d (by intro h; simp [h] at hO) e
  exact ⟨v, e1, q v H F (Grow.refl I.dom) r⟩
theorem sb_var (i : Nat) {x : Str} (hN : X.N[i]? = some x := by rfl) (hv : Vis X.env.scope x := by first | exact Or.inl rfl | exact Or.inr (Or.inl rfl) | exact Or.inr (Or.inr rfl)) (hd : (x == ("__debug__" : Str)) = false := by decide)
    (hcd : (x == ("__classdict__" : Str)) = false := by decide) : PE X (.Name x pos) (tB M W O (getV i)) := pe_imp (pe_var hN hv hd hcd) fun σ H Q ⟨δ, F, I, w⟩ => by
  obtain ⟨d, e, q⟩ := getV_ok w
  by_cases hO : i ∈ O
  · obtain ⟨p, e1, _, o⟩ := I.own i d hO e
    cases d with
    | lst ds =>
      obtain ⟨vs, h1, h2⟩ := o
      exact ⟨.ref p, e1, q _ H F (Grow.refl I.dom) ⟨p, vs, rfl, h1, h2⟩⟩
    | dct ds =>
      obtain ⟨es, ep, h1, h2⟩ := o
      exact ⟨.ref p, e1, q _ H F (Grow.refl I.dom) ⟨p, es, ep, rfl, h1, h2⟩⟩
    | _ => exact o.elim
  · obtain ⟨v, e1, r⟩ := I.fr i d hO e
    exact ⟨v, e1, q v H F (Grow.refl I.dom) r.b⟩
def cst (d : D) (_ : DEnv) : R D := .ok d
theorem sd_const {v : V} {d : D} (h : PE X e (tC v)) (r : ∀ F H, Rep M F H v d) : PE X e (tD M W O (cst d)) := pe_imp h fun σ H Q ⟨δ, F, I, w⟩ => w v H F (Grow.refl I.dom) (r F H)
theorem sd_int {i : Int} {j : Nat} : PE X (.Constant (.int i) j pos) (tD M W O (cst (.int i))) := sd_const pe_int fun _ _ => .int i
theorem sd_bl {i : Bool} {j : Nat} : PE X (.Constant (.bool i) j pos) (tD M W O (cst (.bl i))) := sd_const pe_bl fun _ _ => .bl i
theorem sd_non {j : Nat} : PE X (.Constant .none j pos) (tD M W O (cst .non)) := sd_const pe_non fun _ _ => .non
theorem strOk_by {s : List Nat} (h : (decide (s.length ≤ lim) && s.all fun c => decide (c < 0x110000)) = true) : strOk s := by
  simp only [Bool.and_eq_true, decide_eq_true_eq, List.all_eq_true] at h
  exact h
theorem sd_str (s : List Nat) {x : Str} {j : Nat} (hx : x = ⟨s.toArray⟩ := by decide +kernel) (hs : (decide (s.length ≤ lim) && s.all fun c => decide (c < 0x110000)) = true := by decide +kernel) : PE X (.Constant (.str x) j pos) (tD M W O (cst (.str s))) :=
  sd_const pe_str fun _ _ => by rw [hx]; exact .str (strOk_by hs)
/-- a module's constant -/
theorem sd_gint (i : Int) {x : Str} {t : Tok} (hm : X.mg x = some (.int i t)) (hg : Gl X x := by rfl) (hd : (x == ("__debug__" : Str)) = false := by decide) : PE X (.Name x pos) (tD M W O (cst (.int i))) := sd_const (pe_glob (v := .int i) hg hm ⟨t, rfl⟩ hd) fun _ _ => .int i
theorem sd_gstr (s : List Nat) {x y : Str} {t : Tok} (hm : X.mg x = some (.str y t)) (hy : y = ⟨s.toArray⟩ := by decide +kernel) (hs : (decide (s.length ≤ lim) && s.all fun c => decide (c < 0x110000)) = true := by decide +kernel) (hg : Gl X x := by rfl) (hd : (x == ("__debug__" : Str)) = false := by decide) : PE X (.Name x pos) (tD M W O (cst (.str s))) :=
  sd_const (pe_glob (v := .str y) hg hm ⟨t, rfl⟩ hd) fun _ _ => by rw [hy]; exact .str (strOk_by hs)

/-! ### two-place operations -/
def rD (M : Md) (op : D → D → R D) : R2 := fun x y H Q => ∃ F a b, Dom F H ∧ RepB M F H x a ∧ RepB M F H y b ∧ (op a b).wp (fun d => ∀ v H' F', Grow F H F' H' → Rep M F' H' v d → Q v H') (fun _ => False)
def bin (op : D → D → R D) (f g : DEnv → R D) : DEnv → R D := fun δ => (f δ).bind fun x => (g δ).bind fun y => match op x y with
  | .ok d => .ok d
  | _ => .bad
theorem tOp_of {op : D → D → R D} {σ : L2.St} {H : Hp} {Q : VK} (h : tD M W O (bin op f g) σ H Q) : tOp (rD M op) (tB M W O f) (tB M W O g) σ H Q := by
  obtain ⟨δ, F, I, w⟩ := h
  refine tE.one I w fun a x H1 F1 ea g1 ra w1 => ?_
  refine ⟨δ, F1, I.grow g1, R.wp_mono (R.wp_bind w1) (fun b eb w2 y H2 F2 g2 rb => ?_) fun n q H2 F2 g2 => q H2 F2 (g1.trans g2)⟩
  refine ⟨F2, a, b, g2.dom, ra.grow g2, rb, ?_⟩
  cases eo : op a b with
  | ok d =>
    rw [eo] at w2
    exact fun v H' F' g3 r => w2 v H' F' ((g1.trans g2).trans g3) r
  | exc n => rw [eo] at w2; exact w2.elim
  | bad => rw [eo] at w2; exact w2.elim
theorem sd_bin {op : Operator} {k : D → D → R D} (ho : OpR X (binaryOp op) (rD M k)) (ha : PE X a (tB M W O f)) (hb : PE X b (tB M W O g)) : PE X (.BinOp a op b pos) (tD M W O (bin k f g)) := pe_imp (pe_op ho ha hb) fun _ _ _ h => tOp_of h
theorem sd_cmp {op : CmpOp} {k : D → D → R D} (ho : OpR X (compareOp op) (rD M k)) (ha : PE X a (tB M W O f)) (hb : PE X b (tB M W O g)) (hm : behindInMarks op b = false := by first | exact nomark _ | rfl) : PE X (.Compare a [op] [b] pos) (tD M W O (bin k f g)) := pe_imp (pe_cmpR ho ha hb hm) fun _ _ _ h => tOp_of h
/-- a bool's value as a test -/
def tst (f : DEnv → R D) : DEnv → R Bool := fun δ => (f δ).bind fun d => match d with
  | .bl b => .ok b
  | _ => .bad
theorem tTest_of {σ : L2.St} {H : Hp} {Q : Bool → Hp → Prop} (h : tT M W O (tst f) σ H Q) : tTest (tD M W O f) σ H Q := by
  obtain ⟨δ, F, I, w⟩ := h
  refine ⟨δ, F, I, R.wp_mono (R.wp_bind w) (fun d _ q v H' F' g r => ?_) fun _ q => q⟩
  cases d with
  | bl b => cases r; exact ⟨b, rfl, q H' F' g⟩
  | _ => exact q.elim
theorem st_cmp {op : CmpOp} {k : D → D → R D} (ho : OpR X (compareOp op) (rD M k)) (ha : PE X a (tB M W O f)) (hb : PE X b (tB M W O g)) (hm : behindInMarks op b = false := by first | exact nomark _ | rfl) : PT X (.Compare a [op] [b] pos) (tT M W O (tst (bin k f g))) :=
  pt_imp (pt_cmpR ho ha hb hm) fun σ H Q h => by
    have := tTest_of h
    unfold tTest at this ⊢
    exact tOp_of (M := M) (W := W) (O := O) (Q := fun x H' => ∃ k, x = .bl k ∧ Q k H') this
theorem st_val (h : PE X e (tD M W O f)) (he : ∀ whole, isTrue e X.env whole = (do let v ← whole; standAt e.pos; holding [v] (truthy v)) := by intro _; rfl) : PT X e (tT M W O (tst f)) :=
  pt_imp (pt_val h he) fun σ H Q h => tTest_of h
/-- a <= b < c -/
def chn (k k' : D → D → R D) (f g h : DEnv → R D) : DEnv → R D := fun δ => (f δ).bind fun x => (g δ).bind fun y => match k x y with
  | .ok (.bl true) => (h δ).bind fun z => (match k' y z with | .ok d => .ok d | _ => .bad)
  | .ok (.bl false) => .ok (.bl false)
  | _ => .bad
theorem tChain_of {c : Expr} {k k' : D → D → R D} {h : DEnv → R D} {σ : L2.St} {H : Hp} {Q : VK} (hh : tD M W O (chn k k' f g h) σ H Q) : tChain (rD M k) (rD M k') (tB M W O f) (tB M W O g) (tB M W O h) σ H Q := by
  obtain ⟨δ, F, I, w⟩ := hh
  refine tE.one I w fun a x H1 F1 ea g1 ra w1 => ?_
  refine ⟨δ, F1, I.grow g1, R.wp_mono (R.wp_bind w1) (fun b eb w2 y H2 F2 g2 rb => ?_) fun n q H2 F2 g2 => q H2 F2 (g1.trans g2)⟩
  refine ⟨F2, a, b, g2.dom, ra.grow g2, rb, ?_⟩
  cases eo : k a b with
  | exc n => rw [eo] at w2; exact w2.elim
  | bad => rw [eo] at w2; exact w2.elim
  | ok d =>
    rw [eo] at w2
    cases d with
    | bl c =>
      intro v H3 F3 g3 r3
      cases r3
      refine ⟨c, rfl, ?_⟩
      cases c with
      | false => exact w2 (.bl false) H3 F3 ((g1.trans g2).trans g3) (.bl false)
      | true =>
        simp only [if_true]
        refine ⟨δ, F3, ((I.grow g1).grow g2).grow g3, R.wp_mono (R.wp_bind w2) (fun z ez w4 u H4 F4 g4 rz => ?_) fun n q H4 F4 g4 => q H4 F4 (((g1.trans g2).trans g3).trans g4)⟩
        refine ⟨F4, b, z, g4.dom, (rb.grow g3).grow g4, rz, ?_⟩
        cases eo' : k' b z with
        | ok d =>
          rw [eo'] at w4
          exact fun v H' F' g5 r => w4 v H' F' ((((g1.trans g2).trans g3).trans g4).trans g5) r
        | exc n => rw [eo'] at w4; exact w4.elim
        | bad => rw [eo'] at w4; exact w4.elim
    | _ => exact w2.elim

/-! ### and, or, not, if else -/
def andV (f g : DEnv → R D) : DEnv → R D := fun δ => (f δ).bind fun d => match d with
  | .bl true => g δ
  | .bl false => .ok (.bl false)
  | _ => .bad
def orV (f g : DEnv → R D) : DEnv → R D := fun δ => (f δ).bind fun d => match d with
  | .bl true => .ok (.bl true)
  | .bl false => g δ
  | _ => .bad
def notV (f : DEnv → R D) : DEnv → R D := fun δ => (f δ).bind fun d => match d with
  | .bl b => .ok (.bl !b)
  | _ => .bad
def andT (f g : DEnv → R Bool) : DEnv → R Bool := fun δ => (f δ).bind fun c => if c then g δ else .ok false
def orT (f g : DEnv → R Bool) : DEnv → R Bool := fun δ => (f δ).bind fun c => if c then .ok true else g δ
def notT (f : DEnv → R Bool) : DEnv → R Bool := fun δ => (f δ).bind fun c => .ok !c
def ifV {α : Type} (c : DEnv → R Bool) (f g : DEnv → R α) : DEnv → R α := fun δ => (c δ).bind fun b => if b then f δ else g δ
theorem tT.one {c : DEnv → R Bool} {σ : L2.St} {H : Hp} {δ : DEnv} {F : Addr → Prop} {β : Type} {k : Bool → R β} {P' : β → Prop} {Q : Bool → Hp → Prop} (I : EInv M O F H σ δ)
    (w : ((c δ).bind k).wp P' (fun n => ∀ H' F', Grow F H F' H' → W (.ref (M.xc n)) none σ H'))
    (h : ∀ b H' F', c δ = .ok b → Grow F H F' H' → (k b).wp P' (fun n => ∀ H' F', Grow F H F' H' → W (.ref (M.xc n)) none σ H') → Q b H') : tT M W O c σ H Q :=
  ⟨δ, F, I, R.wp_mono (R.wp_bind w) (fun d ed q H' F' g => h d H' F' ed g q) fun _ q => q⟩
/-- what was asked ahead of a step, asked behind it -/
theorem wp_behind {σ : L2.St} {H H1 : Hp} {F F1 : Addr → Prop} {x : R D} {Q : VK} (g1 : Grow F H F1 H1)
    (w : x.wp (fun d => ∀ v H' F', Grow F H F' H' → P F' H' v d → Q v H') (fun n => ∀ H' F', Grow F H F' H' → W (.ref (M.xc n)) none σ H')) :
    x.wp (fun d => ∀ v H' F', Grow F1 H1 F' H' → P F' H' v d → Q v H') (fun n => ∀ H' F', Grow F1 H1 F' H' → W (.ref (M.xc n)) none σ H') :=
  R.wp_mono w (fun d _ q v H' F' g r => q v H' F' (g1.trans g) r) fun n q H' F' g => q H' F' (g1.trans g)
theorem wpT_behind {σ : L2.St} {H H1 : Hp} {F F1 : Addr → Prop} {x : R Bool} {Q : Bool → Hp → Prop} (g1 : Grow F H F1 H1)
    (w : x.wp (fun d => ∀ H' F', Grow F H F' H' → Q d H') (fun n => ∀ H' F', Grow F H F' H' → W (.ref (M.xc n)) none σ H')) :
    x.wp (fun d => ∀ H' F', Grow F1 H1 F' H' → Q d H') (fun n => ∀ H' F', Grow F1 H1 F' H' → W (.ref (M.xc n)) none σ H') :=
  R.wp_mono w (fun d _ q H' F' g => q H' F' (g1.trans g)) fun n q H' F' g => q H' F' (g1.trans g)
variable {fa fb : DEnv → R Bool} {rest : List Expr}
theorem st_and1 (h : PT X a (tT M W O fa)) : PW X (.BoolOp .And [a] pos) (tT M W O fa) := pw_and1 h
theorem st_or1 (h : PT X a (tT M W O fa)) : PW X (.BoolOp .Or [a] pos) (tT M W O fa) := pw_or1 h
theorem pw_imp {t t' : TT} (h : PW X e t) (i : ∀ σ H Q, t' σ H Q → t σ H Q) : PW X e t' := ⟨fun wh pins s σ H Q I q => h.run wh pins s σ H Q I (i σ H Q q)⟩
theorem st_and (ha : PT X a (tT M W O fa)) (hb : PW X (.BoolOp .And (b :: rest) pos) (tT M W O fb)) : PW X (.BoolOp .And (a :: b :: rest) pos) (tT M W O (andT fa fb)) := pw_imp (pw_and ha hb) fun σ H Q ⟨δ, F, I, w⟩ => by
  refine tT.one I w fun c H1 F1 ec g1 w1 => ?_
  cases c with
  | true => exact ⟨δ, F1, I.grow g1, wpT_behind g1 w1⟩
  | false => exact w1 H1 F1 g1
theorem st_or (ha : PT X a (tT M W O fa)) (hb : PW X (.BoolOp .Or (b :: rest) pos) (tT M W O fb)) : PW X (.BoolOp .Or (a :: b :: rest) pos) (tT M W O (orT fa fb)) := pw_imp (pw_or ha hb) fun σ H Q ⟨δ, F, I, w⟩ => by
  refine tT.one I w fun c H1 F1 ec g1 w1 => ?_
  cases c with
  | false => exact ⟨δ, F1, I.grow g1, wpT_behind g1 w1⟩
  | true => exact w1 H1 F1 g1
theorem st_not (ha : PT X a (tT M W O fa)) : PT X (.UnaryOp .Not a pos) (tT M W O (notT fa)) := pt_imp (pt_not ha) fun σ H Q ⟨δ, F, I, w⟩ =>
  tT.one I w fun c H1 F1 ec g1 w1 => w1 H1 F1 g1
theorem sd_one {op : PySem.BoolOp} (h : PE X a (tD M W O f)) : PE X (.BoolOp op [a] pos) (tD M W O f) := pe_one h
theorem sd_and (ha : PE X a (tD M W O f)) (hb : PE X (.BoolOp .And (b :: rest) pos) (tD M W O g)) : PE X (.BoolOp .And (a :: b :: rest) pos) (tD M W O (andV f g)) := pe_imp (pe_and ha hb) fun σ H Q ⟨δ, F, I, w⟩ => by
  refine tE.one I w fun d v H1 F1 ed g1 r w1 => ?_
  cases d with
  | bl c =>
    cases r
    refine ⟨c, rfl, ?_⟩
    cases c with
    | true => exact ⟨δ, F1, I.grow g1, wp_behind g1 w1⟩
    | false => exact w1 _ H1 F1 g1 (.bl false)
  | _ => exact w1.elim
theorem sd_or (ha : PE X a (tD M W O f)) (hb : PE X (.BoolOp .Or (b :: rest) pos) (tD M W O g)) : PE X (.BoolOp .Or (a :: b :: rest) pos) (tD M W O (orV f g)) := pe_imp (pe_or ha hb) fun σ H Q ⟨δ, F, I, w⟩ => by
  refine tE.one I w fun d v H1 F1 ed g1 r w1 => ?_
  cases d with
  | bl c =>
    cases r
    refine ⟨c, rfl, ?_⟩
    cases c with
    | false => exact ⟨δ, F1, I.grow g1, wp_behind g1 w1⟩
    | true => exact w1 _ H1 F1 g1 (.bl true)
  | _ => exact w1.elim
theorem sd_not (ha : PE X a (tD M W O f)) : PE X (.UnaryOp .Not a pos) (tD M W O (notV f)) := pe_imp (pe_not ha) fun σ H Q ⟨δ, F, I, w⟩ => by
  refine tE.one I w fun d v H1 F1 ed g1 r w1 => ?_
  cases d with
  | bl c => cases r; exact ⟨c, rfl, w1 _ H1 F1 g1 (.bl _)⟩
  | _ => exact w1.elim
theorem sd_if {c : Expr} (hc : PT X c (tT M W O fa)) (ha : PE X a (tD M W O f)) (hb : PE X b (tD M W O g)) : PE X (.IfExp c a b pos) (tD M W O (ifV fa f g)) := pe_imp (pe_ifExp hc ha hb) fun σ H Q ⟨δ, F, I, w⟩ => by
  refine tT.one I w fun c H1 F1 ec g1 w1 => ?_
  cases c with
  | true => exact ⟨δ, F1, I.grow g1, wp_behind g1 w1⟩
  | false => exact ⟨δ, F1, I.grow g1, wp_behind g1 w1⟩

/-! ### argument lists, displays -/
variable {es : List Expr} {fs : DEnv → R (List D)}
def nilA (_ : DEnv) : R (List D) := .ok []
def consA (f : DEnv → R D) (fs : DEnv → R (List D)) : DEnv → R (List D) := fun δ => (f δ).bind fun d => (fs δ).bind fun ds => .ok (d :: ds)
class Grows (P : PR) : Prop where
  grow : ∀ {F F' : Addr → Prop} {H H' : Hp} {v : V} {d : D}, P F H v d → Grow F H F' H' → P F' H' v d
instance : Grows (Rep M) := ⟨fun r g => r.grow g⟩
instance : Grows (RepB M) := ⟨fun r g => r.grow g⟩
theorem sa_nil : PA X [] (tA M W O P nilA) := pa_imp pa_nil fun σ H Q ⟨δ, F, I, w⟩ => w [] H F (Grow.refl I.dom) .nil
theorem sa_cons [Grows P] (ha : PE X e (tE M W O P f)) (hr : PA X es (tA M W O P fs)) (hs : starEach (e :: es) X.env = (false, eval e X.env) :: starEach es X.env := by rfl) : PA X (e :: es) (tA M W O P (consA f fs)) := pa_imp (pa_cons ha hr hs) fun σ H Q ⟨δ, F, I, w⟩ => by
  refine tE.one I w fun d v H1 F1 ed g1 r w1 => ?_
  refine ⟨δ, F1, I.grow g1, R.wp_mono (R.wp_bind w1) (fun ds eds w2 vs H2 F2 g2 rs => ?_) fun n q H2 F2 g2 => q H2 F2 (g1.trans g2)⟩
  exact w2 (v :: vs) H2 F2 (g1.trans g2) (.cons (Grows.grow r g2) rs)
theorem All2.length {P : V → D → Prop} : ∀ {vs : List V} {ds : List D}, All2 P vs ds → vs.length = ds.length
  | _, _, .nil => rfl
  | _, _, .cons _ t => by simp [All2.length t]
def lstV (fs : DEnv → R (List D)) : DEnv → R D := fun δ => (fs δ).bind fun ds => if ds.length ≤ lim then .ok (.lst ds) else .bad
def tupV (fs : DEnv → R (List D)) : DEnv → R D := fun δ => (fs δ).bind fun ds => if ds.length ≤ lim then .ok (.tup ds) else .bad
theorem sd_lst (h : PA X es (tA M W O (Rep M) fs)) : PE X (.List es pos) (tD M W O (lstV fs)) := pe_imp (pe_lst h) fun σ H Q ⟨δ, F, I, w⟩ => by
  refine ⟨δ, F, I, R.wp_mono (R.wp_bind w) (fun ds _ q vs H1 F1 g1 rs => ?_) fun _ q => q⟩
  by_cases hl : ds.length ≤ lim
  · rw [if_pos hl] at q
    refine ⟨by rw [rs.length, lim_eq]; exact hl, fun p hp => ?_⟩
    have g2 := Grow.newL (o := .lst vs) g1.dom hp
    exact q (.ref p) _ _ (g1.trans g2) (.lst (.inr rfl) upd_same (rs.rep.grow g2))
  · rw [if_neg hl] at q; exact q.elim
theorem sd_tup {k : Nat} (h : PA X es (tA M W O (Rep M) fs)) : PE X (.Tuple es k pos) (tD M W O (tupV fs)) := pe_imp (pe_tup h) fun σ H Q ⟨δ, F, I, w⟩ => by
  refine ⟨δ, F, I, R.wp_mono (R.wp_bind w) (fun ds _ q vs H1 F1 g1 rs => ?_) fun _ q => q⟩
  by_cases hl : ds.length ≤ lim
  · rw [if_pos hl] at q
    refine ⟨by rw [rs.length, lim_eq]; exact hl, fun p hp => ?_⟩
    have g2 := Grow.newT (o := .tup vs) g1.dom hp
    exact q (.ref p) _ _ (g1.trans g2) (.tup upd_same (rs.rep.grow g2))
  · rw [if_neg hl] at q; exact q.elim

/-! ### subscripts, slices -/
theorem sd_ix {k : D → D → R D} (ho : IxR X (rD M k)) (ha : PE X a (tB M W O f)) (hb : PE X b (tB M W O g)) (hs : PlainIx b := by intro _ _; rfl) : PE X (.Subscript a b pos) (tD M W O (bin k f g)) := pe_imp (pe_ix ho ha hb hs) fun _ _ _ h => tOp_of h

/-! ### calls of built-ins by values -/
def rC (M : Md) (g : List D → R D) : List V → Hp → VK → Prop := fun vs H Q => ∃ F ds, Dom F H ∧ All2 (RepB M F H) vs ds ∧ (g ds).wp (fun d => ∀ v H' F', Grow F H F' H' → Rep M F' H' v d → Q v H') (fun _ => False)
def app (g : List D → R D) (fs : DEnv → R (List D)) : DEnv → R D := fun δ => (fs δ).bind fun ds => match g ds with
  | .ok d => .ok d
  | _ => .bad
theorem tCB_of {k : List D → R D} {σ : L2.St} {H : Hp} {Q : VK} (h : tD M W O (app k fs) σ H Q) : tCB (rC M k) (tA M W O (RepB M) fs) σ H Q := by
  obtain ⟨δ, F, I, w⟩ := h
  refine ⟨δ, F, I, R.wp_mono (R.wp_bind w) (fun ds _ q vs H1 F1 g1 rs => ?_) fun _ q => q⟩
  refine ⟨F1, ds, g1.dom, rs, ?_⟩
  cases eo : k ds with
  | ok d => rw [eo] at q; exact fun v H' F' g2 r => q v H' F' (g1.trans g2) r
  | exc n => rw [eo] at q; exact q.elim
  | bad => rw [eo] at q; exact q.elim
theorem sd_callB {id : String} {x : Str} {p : Pos} {k : List D → R D} (hc : CallR X (.builtin id) (rC M k)) (hm : X.mg x = none) (hv : bootBuiltins x = some (.builtin id)) (ha : PA X (e :: es) (tA M W O (RepB M) fs)) (hg : Gl X x := by rfl) (hn : x ≠ "__name__" := by decide) (hdb : (x == ("__debug__" : Str)) = false := by decide)
    (hs : starEach (e :: es) X.env = (false, eval e X.env) :: starEach es X.env := by rfl) (hp : (backTo pos (starEach es X.env)).any (·.1) = false := by rfl) : PE X (.Call (.Name x p) (e :: es) [] pos) (tD M W O (app k fs)) :=
  pe_imp (pe_callB hc hg hm hv ha hn hdb hs hp) fun _ _ _ h => tCB_of h
theorem sd_callTy {id : String} {x : Str} {p : Pos} {k : List D → R D} (hc : CallR X (.type id) (rC M k)) (hm : X.mg x = none) (hv : bootBuiltins x = some (.type id)) (ha : PA X (e :: es) (tA M W O (RepB M) fs)) (hg : Gl X x := by rfl) (hn : x ≠ "__name__" := by decide) (hdb : (x == ("__debug__" : Str)) = false := by decide)
    (hs : starEach (e :: es) X.env = (false, eval e X.env) :: starEach es X.env := by rfl) (hp : (backTo pos (starEach es X.env)).any (·.1) = false := by rfl) : PE X (.Call (.Name x p) (e :: es) [] pos) (tD M W O (app k fs)) :=
  pe_imp (pe_callTy hc hg hm hv ha hn hdb hs hp) fun _ _ _ h => tCB_of h
end
end CL

namespace CL
open PySem PySem.Spec PyProof.Rows L2

/-! ### equality of data -/
mutual
def D.py : D → PyData
  | .non => .none
  | .bl b => .bool b
  | .int i => .int i
  | .str s => .str ⟨s.toArray⟩
  | .lst l => .list (D.pys l)
  | .tup l => .tuple (D.pys l)
  | .dct _ => .dict []
  | .opq _ _ => .dict []
def D.pys : List D → List PyData
  | [] => []
  | d :: ds => d.py :: D.pys ds
end
mutual
def D.plain : D → Bool
  | .lst l => D.plains l
  | .tup l => D.plains l
  | .dct _ => false
  | .opq _ _ => false
  | _ => true
def D.plains : List D → Bool
  | [] => true
  | d :: ds => d.plain && D.plains ds
end
mutual
def D.dep : D → Nat
  | .lst l => D.deps l + 1
  | .tup l => D.deps l + 1
  | .dct _ => 1
  | .opq _ _ => 1
  | _ => 0
def D.deps : List D → Nat
  | [] => 0
  | d :: ds => max d.dep (D.deps ds)
end
mutual
def D.eqv : D → D → Bool
  | .non, .non => true
  | .bl a, .bl b => a == b
  | .bl a, .int j => (if a then 1 else 0) == j
  | .int i, .bl b => i == (if b then 1 else 0)
  | .int i, .int j => i == j
  | .str x, .str y => x == y
  | .lst xs, .lst ys => D.eqvs xs ys
  | .tup xs, .tup ys => D.eqvs xs ys
  | _, _ => false
def D.eqvs : List D → List D → Bool
  | [], [] => true
  | x :: xs, y :: ys => D.eqv x y && D.eqvs xs ys
  | _, _ => false
end
mutual
theorem D.dep_py : ∀ d : D, d.py.depth = d.dep
  | .non => rfl | .bl _ => rfl | .int _ => rfl | .str _ => rfl
  | .lst l => by simp only [D.py, D.dep, PyData.depth, D.deps_py l]
  | .tup l => by simp only [D.py, D.dep, PyData.depth, D.deps_py l]
  | .dct _ => rfl
  | .opq _ _ => rfl
theorem D.deps_py : ∀ l : List D, PyData.depthAll (D.pys l) = D.deps l
  | [] => rfl
  | d :: ds => by simp only [D.pys, D.deps, PyData.depthAll, D.dep_py d, D.deps_py ds]
end
theorem str_beq (a b : List Nat) : ((⟨a.toArray⟩ : Str) == ⟨b.toArray⟩) = (a == b) := by
  by_cases h : a = b
  · subst h; simp
  · have h1 : ¬ (⟨a.toArray⟩ : Str) = ⟨b.toArray⟩ := fun e => h (by injection e with e1; simpa using congrArg Array.toList e1)
    rw [beq_eq_false_iff_ne.mpr h, beq_eq_false_iff_ne.mpr h1]
mutual
theorem D.eqv_py : ∀ a b : D, a.plain = true → b.plain = true → PyData.eqv a.py b.py = a.eqv b
  | .non, b, _, hb => by cases b <;> first | rfl | (simp [D.plain] at hb)
  | .bl _, b, _, hb => by cases b <;> first | rfl | (simp [D.plain] at hb)
  | .int _, b, _, hb => by cases b <;> first | rfl | (simp [D.plain] at hb)
  | .str s, b, _, hb => by
    cases b <;> first | rfl | (simp [D.plain] at hb; done) | skip
    simp only [D.py, D.eqv, PyData.eqv, str_beq]
  | .lst l, b, ha, hb => by
    cases b <;> first | rfl | (simp [D.plain] at hb; done) | skip
    simp only [D.py, D.eqv, PyData.eqv]
    exact D.eqvs_py l _ (by simpa [D.plain] using ha) (by simpa [D.plain] using hb)
  | .tup l, b, ha, hb => by
    cases b <;> first | rfl | (simp [D.plain] at hb; done) | skip
    simp only [D.py, D.eqv, PyData.eqv]
    exact D.eqvs_py l _ (by simpa [D.plain] using ha) (by simpa [D.plain] using hb)
  | .dct _, _, h, _ => by simp [D.plain] at h
  | .opq _ _, _, h, _ => by simp [D.plain] at h
theorem D.eqvs_py : ∀ a b : List D, D.plains a = true → D.plains b = true → PyData.eqvAll (D.pys a) (D.pys b) = D.eqvs a b
  | [], [], _, _ => rfl
  | [], _ :: _, _, _ => rfl
  | _ :: _, [], _, _ => rfl
  | x :: xs, y :: ys, ha, hb => by
    simp only [D.plains, Bool.and_eq_true] at ha hb
    simp only [D.pys, D.eqvs, PyData.eqvAll, D.eqv_py x y ha.1 hb.1, D.eqvs_py xs ys ha.2 hb.2]
end
section
variable {M : Md} {F : Addr → Prop} {H : Hp}
theorem strOk.ok {s : List Nat} (h : strOk s) : PyData.canLay0 (.str ⟨s.toArray⟩) = true := by
  simp only [PyData.canLay0, PyData.strOk, Array.all_eq_true]
  intro i hi
  have : i < s.length := by simpa using hi
  simpa using h.2 s[i] (List.getElem_mem this)
mutual
theorem Rep.dp {K : PySem.W.Frag} : ∀ {v : V} {d : D}, Rep M F H v d → d.plain = true → Dp K H v d.py ∧ d.py.canLay0 = true
  | _, _, .non, _ => ⟨.non, rfl⟩
  | _, _, .bl b, _ => ⟨.bl b, rfl⟩
  | _, _, .int i, _ => ⟨.int i, rfl⟩
  | _, _, .str h, _ => ⟨.str _, h.ok⟩
  | _, _, .lst _ h2 h3, p => by
    obtain ⟨q1, q2⟩ := RepAll.dp h3 (by simpa [D.plain] using p)
    exact ⟨.lst (SqL.of h2) q1, by simpa [D.py, PyData.canLay0] using q2⟩
  | _, _, .tup h2 h3, p => by
    obtain ⟨q1, q2⟩ := RepAll.dp h3 (by simpa [D.plain] using p)
    exact ⟨.tup (SqT.of h2) q1, by simpa [D.py, PyData.canLay0] using q2⟩
  | _, _, .scr _, p => by simp [D.plain] at p
  | _, _, .fn _ _, p => by simp [D.plain] at p
theorem RepAll.dp {K : PySem.W.Frag} : ∀ {vs : List V} {ds : List D}, RepAll M F H vs ds → D.plains ds = true → DpAll K H vs (D.pys ds) ∧ PyData.canLayAll0 (D.pys ds) = true
  | _, _, .nil, _ => ⟨.nil, rfl⟩
  | _, _, .cons h t, p => by
    simp only [D.plains, Bool.and_eq_true] at p
    obtain ⟨q1, q2⟩ := Rep.dp (K := K) h p.1
    obtain ⟨q3, q4⟩ := RepAll.dp (K := K) t p.2
    exact ⟨.cons q1 q3, by simp [D.pys, PyData.canLayAll0, q2, q4]⟩
end
theorem RepB.dp {K : PySem.W.Frag} {v : V} {d : D} (r : RepB M F H v d) (p : d.plain = true) : Dp K H v d.py ∧ d.py.canLay0 = true := by
  cases d with
  | lst ds =>
    obtain ⟨a, vs, rfl, h, r⟩ := r
    obtain ⟨q1, q2⟩ := RepAll.dp (K := K) r (by simpa [D.plain] using p)
    exact ⟨.lst (SqL.of h) q1, by simpa [D.py, PyData.canLay0] using q2⟩
  | dct l => simp [D.plain] at p
  | _ => exact Rep.dp (show Rep M F H v _ from r) p
end

def D.eq (a b : D) : R D := if a.plain && b.plain && decide (min a.dep b.dep ≤ 60) then .ok (.bl (a.eqv b)) else .bad
def D.ne (a b : D) : R D := if a.plain && b.plain && decide (min a.dep b.dep ≤ 60) then .ok (.bl !(a.eqv b)) else .bad
def D.add : D → D → R D
  | .int i, .int j => .ok (.int (i + j))
  | .str a, .str b => if a.length + b.length ≤ lim then .ok (.str (a ++ b)) else .bad
  | .lst a, .lst b => if a.length + b.length ≤ lim then .ok (.lst (a ++ b)) else .bad
  | .tup a, .tup b => if a.length + b.length ≤ lim then .ok (.tup (a ++ b)) else .bad
  | _, _ => .bad
def D.sub : D → D → R D
  | .int i, .int j => .ok (.int (i - j))
  | _, _ => .bad
/-- a factor within 64 bits -/
def wid (n : Nat) (i : Int) : Bool := Nat.ble i.natAbs n
theorem wid_iff {n : Nat} {i : Int} : wid n i = true ↔ -(n : Int) ≤ i ∧ i ≤ n := by
  unfold wid
  rw [Nat.ble_eq]
  omega
def b64 (i : Int) : Bool := wid 18446744073709551615 i
def D.mul : D → D → R D
  | .int i, .int j => if b64 i || b64 j then .ok (.int (i * j)) else .bad
  | .lst a, .int k => if wid 999999 k = true ∧ a.length * k.toNat ≤ lim then .ok (.lst (List.replicate k.toNat a).flatten) else .bad
  | _, _ => .bad
def D.fdiv : D → D → R D
  | .int i, .int j => if 0 < j ∧ wid 1073741823 j = true then .ok (.int (i / j)) else .bad
  | _, _ => .bad
def D.mod : D → D → R D
  | .int i, .int j => if 0 < j then .ok (.int (i % j)) else .bad
  | _, _ => .bad
def cmpI (p : Int → Int → Bool) (q : List Nat → List Nat → Bool) : D → D → R D
  | .int i, .int j => .ok (.bl (p i j))
  | .str i, .str j => .ok (.bl (q i j))
  | _, _ => .bad
def D.lt := cmpI (fun i j => decide (i < j)) fun a b => decide (a < b)
def D.le := cmpI (fun i j => decide (i ≤ j)) fun a b => !decide (b < a)
def D.gt := cmpI (fun i j => decide (j < i)) fun a b => decide (b < a)
def D.ge := cmpI (fun i j => decide (j ≤ i)) fun a b => !decide (a < b)
def D.isin : D → D → R D
  | .str [c], .str s => .ok (.bl (decide (c ∈ s)))
  | d, .lst l => if d.plain && D.plains l && decide (d.dep ≤ 60) then .ok (.bl (l.any fun z => z.eqv d)) else .bad
  | _, _ => .bad
def D.notin : D → D → R D
  | .str [c], .str s => .ok (.bl !(decide (c ∈ s)))
  | d, .lst l => if d.plain && D.plains l && decide (d.dep ≤ 60) then .ok (.bl !(l.any fun z => z.eqv d)) else .bad
  | _, _ => .bad
def D.is_ : D → D → R D
  | d, .non => match d with | .opq _ _ => .bad | .dct _ => .bad | .non => .ok (.bl true) | _ => .ok (.bl false)
  | .bl a, .bl b => .ok (.bl (a == b))
  | _, _ => .bad
def D.isnot : D → D → R D
  | d, .non => match d with | .opq _ _ => .bad | .dct _ => .bad | .non => .ok (.bl false) | _ => .ok (.bl true)
  | .bl a, .bl b => .ok (.bl (a != b))
  | _, _ => .bad
def D.ix : D → D → R D
  | .lst l, .int i => match atI l i with | some d => .ok d | none => .bad
  | .tup l, .int i => match atI l i with | some d => .ok d | none => .bad
  | .str s, .int i => match atI s i with | some c => .ok (.str [c]) | none => .bad
  | _, _ => .bad

section
variable {X : Cx} {M : Md}
theorem opr_imp {f : Value → Value → Sem Value} {r r' : R2} (h : OpR X f r) (i : ∀ pins s σ H x y Q, Inv X pins σ H s → r' x y H Q → r x y H Q) : OpR X f r' := fun pins s σ H x y v u Q I rx ry q => h pins s σ H x y v u Q I rx ry (i pins s σ H x y Q I q)
theorem od_eq (hu : X.A.units + 64 < cLine) : OpR X (compareOp .Eq) (rD M D.eq) := by
  intro pins s σ H x y v u Q I rx ry ⟨F, a, b, dm, ra, rb, w⟩
  unfold D.eq at w
  split at w
  · rename_i h
    simp only [Bool.and_eq_true, decide_eq_true_eq] at h
    obtain ⟨da, ca⟩ := ra.dp (K := X.K) h.1.1
    obtain ⟨db, cb⟩ := rb.dp (K := X.K) h.1.2
    obtain ⟨as, r1⟩ := Dp.reads I _ x v da rx
    obtain ⟨bs, r2⟩ := Dp.reads I _ y u db ry
    refine SeqAt.compareEq_reads r1 r2 ca cb (by rw [D.dep_py, D.dep_py]; omega) ⟨.bl _, H, I, rfl, ?_⟩
    rw [D.eqv_py a b h.1.1 h.1.2]
    exact w _ H F (Grow.refl dm) (.bl _)
  · exact w.elim
theorem od_ne (hu : X.A.units + 64 < cLine) : OpR X (compareOp .NotEq) (rD M D.ne) := by
  intro pins s σ H x y v u Q I rx ry ⟨F, a, b, dm, ra, rb, w⟩
  unfold D.ne at w
  split at w
  · rename_i h
    simp only [Bool.and_eq_true, decide_eq_true_eq] at h
    obtain ⟨da, ca⟩ := ra.dp (K := X.K) h.1.1
    obtain ⟨db, cb⟩ := rb.dp (K := X.K) h.1.2
    obtain ⟨as, r1⟩ := Dp.reads I _ x v da rx
    obtain ⟨bs, r2⟩ := Dp.reads I _ y u db ry
    refine SeqAt.compareNe_reads r1 r2 ca cb (by rw [D.dep_py, D.dep_py]; omega) ⟨.bl _, H, I, rfl, ?_⟩
    rw [D.eqv_py a b h.1.1 h.1.2]
    exact w _ H F (Grow.refl dm) (.bl _)
  · exact w.elim
theorem str_len (s : List Nat) : (⟨s.toArray⟩ : Str).length = s.length := by simp [Str.length]
theorem str_app (a b : List Nat) : (⟨a.toArray⟩ : Str) ++ (⟨b.toArray⟩ : Str) = ⟨(a ++ b).toArray⟩ := by
  show Str.append _ _ = _
  simp [Str.append]
theorem strOk.app {a b : List Nat} (ha : strOk a) (hb : strOk b) (h : a.length + b.length ≤ lim) : strOk (a ++ b) := ⟨by rw [List.length_append]; exact h, fun c hc => by
  rcases List.mem_append.mp hc with z | z
  · exact ha.2 c z
  · exact hb.2 c z⟩
theorem strOk.sub {a b : List Nat} (ha : strOk a) (hl : b.length ≤ a.length) (h : ∀ c ∈ b, c ∈ a) : strOk b := ⟨Nat.le_trans hl ha.1, fun c hc => ha.2 c (h c hc)⟩
theorem od_add : OpR X (binaryOp .Add) (rD M D.add) := by
  intro pins s σ H x y v u Q I rx ry ⟨F, a, b, dm, ra, rb, w⟩
  unfold D.add at w
  split at w
  · cases (show Rep M F H x _ from ra)
    cases (show Rep M F H y _ from rb)
    exact op_add pins s σ H _ _ v u Q I rx ry ⟨_, _, rfl, rfl, w _ H F (Grow.refl dm) (.int _)⟩
  · cases (show Rep M F H x _ from ra) with
    | str ha => cases (show Rep M F H y _ from rb) with
      | str hb =>
        split at w
        · rename_i h
          refine op_add_str pins s σ H _ _ v u Q I rx ry ⟨_, _, rfl, rfl, by rw [str_len, str_len, lim_eq]; exact h, ?_⟩
          rw [str_app]
          exact w _ H F (Grow.refl dm) (.str (ha.app hb h))
        · exact w.elim
  · obtain ⟨p, vs, rfl, h1, r1⟩ := ra
    obtain ⟨q, us, rfl, h2, r2⟩ := rb
    split at w
    · rename_i h
      refine op_cat pins s σ H _ _ v u Q I rx ry ⟨p, q, vs, us, rfl, rfl, h1, h2, by rw [r1.length, r2.length, lim_eq]; exact h, fun z hz => ?_⟩
      have g := Grow.newL (o := .lst (vs ++ us)) dm hz
      exact w _ _ _ g (.lst (.inr rfl) upd_same ((r1.append r2).grow g))
    · exact w.elim
  · cases (show Rep M F H x _ from ra) with
    | tup h1 r1 => cases (show Rep M F H y _ from rb) with
      | tup h2 r2 =>
        split at w
        · rename_i h
          refine op_catA pins s σ H _ _ v u Q I rx ry ⟨_, _, _, _, rfl, rfl, SqT.of h1, SqT.of h2, by rw [r1.length, r2.length, lim_eq]; exact h, fun e => ?_, fun _ e => ?_, fun _ _ z hz => ?_⟩
          · subst e
            cases r1
            exact w _ H F (Grow.refl dm) (.tup h2 r2)
          · subst e
            cases r2
            rw [List.append_nil] at w
            exact w _ H F (Grow.refl dm) (.tup h1 r1)
          · exact w (.ref z) _ _ (Grow.newT dm hz) (.tup upd_same ((r1.append r2).grow (Grow.newT dm hz)))
        · exact w.elim
  · exact w.elim
theorem od_sub : OpR X (binaryOp .Sub) (rD M D.sub) := by
  intro pins s σ H x y v u Q I rx ry ⟨F, a, b, dm, ra, rb, w⟩
  unfold D.sub at w
  split at w
  · cases (show Rep M F H x _ from ra)
    cases (show Rep M F H y _ from rb)
    exact op_sub pins s σ H _ _ v u Q I rx ry ⟨_, _, rfl, rfl, w _ H F (Grow.refl dm) (.int _)⟩
  · exact w.elim
theorem od_mul : OpR X (binaryOp .Mult) (rD M D.mul) := by
  intro pins s σ H x y v u Q I rx ry ⟨F, a, b, dm, ra, rb, w⟩
  unfold D.mul at w
  split at w
  · cases (show Rep M F H x _ from ra)
    cases (show Rep M F H y _ from rb)
    split at w
    · rename_i h
      simp only [b64, Bool.or_eq_true, wid_iff] at h
      exact op_mul pins s σ H _ _ v u Q I rx ry ⟨_, _, rfl, rfl, h.imp (fun h => ⟨by omega, by omega⟩) (fun h => ⟨by omega, by omega⟩), w _ H F (Grow.refl dm) (.int _)⟩
    · exact w.elim
  · obtain ⟨p, vs, rfl, h1, r1⟩ := ra
    cases (show Rep M F H y _ from rb)
    split at w
    · rename_i h
      have hw := wid_iff.1 h.1
      refine op_rep pins s σ H _ _ v u Q I rx ry ⟨p, _, vs, rfl, rfl, h1, by omega, by omega, by rw [r1.length, lim_eq]; exact h.2, fun z hz => ?_⟩
      exact w (.ref z) _ _ (Grow.newL dm hz) (.lst (.inr rfl) upd_same ((r1.rep _).grow (Grow.newL dm hz)))
    · exact w.elim
  · exact w.elim
theorem od_fdiv : OpR X (binaryOp .FloorDiv) (rD M D.fdiv) := by
  intro pins s σ H x y v u Q I rx ry ⟨F, a, b, dm, ra, rb, w⟩
  unfold D.fdiv at w
  split at w
  · cases (show Rep M F H x _ from ra)
    cases (show Rep M F H y _ from rb)
    split at w
    · rename_i h
      have hw := wid_iff.1 h.2
      exact op_fdiv pins s σ H _ _ v u Q I rx ry ⟨_, _, rfl, rfl, ⟨h.1, by omega⟩, w _ H F (Grow.refl dm) (.int _)⟩
    · exact w.elim
  · exact w.elim
theorem od_mod : OpR X (binaryOp .Mod) (rD M D.mod) := by
  intro pins s σ H x y v u Q I rx ry ⟨F, a, b, dm, ra, rb, w⟩
  unfold D.mod at w
  split at w
  · cases (show Rep M F H x _ from ra)
    cases (show Rep M F H y _ from rb)
    split at w
    · rename_i h
      exact op_mod pins s σ H _ _ v u Q I rx ry ⟨_, _, rfl, rfl, h, w _ H F (Grow.refl dm) (.int _)⟩
    · exact w.elim
  · exact w.elim
theorem od_cmp {op : CmpOp} {p : Int → Int → Bool} {q : List Nat → List Nat → Bool} (h1 : OpR X (compareOp op) (rI0 fun i j => .bl (p i j)))
    (h2 : OpR X (compareOp op) (fun x y H Q => ∃ i j, x = .str i ∧ y = .str j ∧ Q (.bl (q i.cps.toList j.cps.toList)) H)) : OpR X (compareOp op) (rD M (cmpI p q)) := by
  intro pins s σ H x y v u Q I rx ry ⟨F, a, b, dm, ra, rb, w⟩
  unfold cmpI at w
  split at w
  · cases (show Rep M F H x _ from ra)
    cases (show Rep M F H y _ from rb)
    exact h1 pins s σ H _ _ v u Q I rx ry ⟨_, _, rfl, rfl, w _ H F (Grow.refl dm) (.bl _)⟩
  · cases (show Rep M F H x _ from ra)
    cases (show Rep M F H y _ from rb)
    exact h2 pins s σ H _ _ v u Q I rx ry ⟨_, _, rfl, rfl, w _ H F (Grow.refl dm) (.bl _)⟩
  · exact w.elim
theorem od_lt : OpR X (compareOp .Lt) (rD M D.lt) := od_cmp op_lt op_lt_str
theorem od_le : OpR X (compareOp .LtE) (rD M D.le) := od_cmp op_le op_le_str
theorem od_gt : OpR X (compareOp .Gt) (rD M D.gt) := od_cmp op_gt op_gt_str
theorem od_ge : OpR X (compareOp .GtE) (rD M D.ge) := od_cmp op_ge op_ge_str
theorem eqv_any (d : D) (hd : d.plain = true) : ∀ l : List D, D.plains l = true → ((D.pys l).any fun z => PyData.eqv z d.py) = l.any fun z => z.eqv d
  | [], _ => rfl
  | x :: xs, h => by
    simp only [D.plains, Bool.and_eq_true] at h
    simp only [D.pys, List.any_cons, D.eqv_py x d h.1 hd, eqv_any d hd xs h.2]
theorem od_in (hu : X.A.units + 64 < cLine) : OpR X (compareOp .In) (rD M D.isin) := by
  intro pins s σ H x y v u Q I rx ry ⟨F, a, b, dm, ra, rb, w⟩
  unfold D.isin at w
  split at w
  · cases (show Rep M F H x _ from ra)
    cases (show Rep M F H y _ from rb)
    exact op_in_sign pins s σ H _ _ v u Q I rx ry ⟨_, _, rfl, rfl, w _ H F (Grow.refl dm) (.bl _)⟩
  · rename_i l
    split at w
    · rename_i h
      simp only [Bool.and_eq_true, decide_eq_true_eq] at h
      obtain ⟨da, ca⟩ := ra.dp (K := X.K) h.1.1
      obtain ⟨db, cb⟩ := rb.dp (K := X.K) (by simpa [D.plain] using h.1.2)
      obtain ⟨as, r1⟩ := Dp.reads I _ x v da rx
      obtain ⟨bs, r2⟩ := Dp.reads I _ y u db ry
      have e := D.dep_py a
      refine SeqAt.in_list_reads (xs := D.pys l) r2 r1 (by simpa [D.py, PyData.canLay0] using cb) ca (by rw [e]; omega) ⟨.bl _, H, I, rfl, ?_⟩
      rw [eqv_any _ h.1.1 _ h.1.2]
      exact w _ H F (Grow.refl dm) (.bl _)
    · exact w.elim
  · exact w.elim
theorem od_notin (hu : X.A.units + 64 < cLine) : OpR X (compareOp .NotIn) (rD M D.notin) := by
  intro pins s σ H x y v u Q I rx ry ⟨F, a, b, dm, ra, rb, w⟩
  unfold D.notin at w
  split at w
  · cases (show Rep M F H x _ from ra)
    cases (show Rep M F H y _ from rb)
    exact op_notIn_sign pins s σ H _ _ v u Q I rx ry ⟨_, _, rfl, rfl, w _ H F (Grow.refl dm) (.bl _)⟩
  · rename_i l
    split at w
    · rename_i h
      simp only [Bool.and_eq_true, decide_eq_true_eq] at h
      obtain ⟨da, ca⟩ := ra.dp (K := X.K) h.1.1
      obtain ⟨db, cb⟩ := rb.dp (K := X.K) (by simpa [D.plain] using h.1.2)
      obtain ⟨as, r1⟩ := Dp.reads I _ x v da rx
      obtain ⟨bs, r2⟩ := Dp.reads I _ y u db ry
      have e := D.dep_py a
      refine SeqAt.notIn_list_reads (xs := D.pys l) r2 r1 (by simpa [D.py, PyData.canLay0] using cb) ca (by rw [e]; omega) ⟨.bl _, H, I, rfl, ?_⟩
      rw [eqv_any _ h.1.1 _ h.1.2]
      exact w _ H F (Grow.refl dm) (.bl _)
    · exact w.elim
  · exact w.elim
theorem repB_non {F : Addr → Prop} {H : Hp} {v : V} {d : D} (r : RepB M F H v d) (h : d ≠ .non) (hq : ∀ n l, d ≠ .opq n l) (hd : ∀ l, d ≠ .dct l) : decide (v = .non) = false := by
  cases d with
  | non => exact absurd rfl h
  | lst ds => obtain ⟨p, vs, rfl, _⟩ := r; rfl
  | opq n l => exact absurd rfl (hq n l)
  | dct l => exact absurd rfl (hd l)
  | _ => cases (show Rep M F H v _ from r) <;> rfl
theorem od_is : OpR X (compareOp .Is) (rD M D.is_) := by
  intro pins s σ H x y v u Q I rx ry ⟨F, a, b, dm, ra, rb, w⟩
  unfold D.is_ at w
  split at w
  · cases (show Rep M F H y _ from rb)
    refine op_isN pins s σ H _ _ v u Q I rx ry ⟨rfl, ?_⟩
    split at w
    · exact w.elim
    · exact w.elim
    · cases (show Rep M F H x _ from ra); exact w _ H F (Grow.refl dm) (.bl _)
    · rename_i h1 h2 h3
      rw [repB_non ra (by intro e; exact h3 e) (fun n l e => h1 n l e) fun l e => h2 l e]
      exact w _ H F (Grow.refl dm) (.bl _)
  · cases (show Rep M F H x _ from ra)
    cases (show Rep M F H y _ from rb)
    refine op_isBl pins s σ H _ _ v u Q I rx ry ⟨_, _, rfl, rfl, ?_⟩
    rw [Bool.beq_eq_decide_eq] at w
    exact w _ H F (Grow.refl dm) (.bl _)
  · exact w.elim
theorem od_isnot : OpR X (compareOp .IsNot) (rD M D.isnot) := by
  intro pins s σ H x y v u Q I rx ry ⟨F, a, b, dm, ra, rb, w⟩
  unfold D.isnot at w
  split at w
  · cases (show Rep M F H y _ from rb)
    refine op_notN pins s σ H _ _ v u Q I rx ry ⟨rfl, ?_⟩
    split at w
    · exact w.elim
    · exact w.elim
    · cases (show Rep M F H x _ from ra); exact w _ H F (Grow.refl dm) (.bl _)
    · rename_i h1 h2 h3
      rw [repB_non ra (by intro e; exact h3 e) (fun n l e => h1 n l e) fun l e => h2 l e]
      exact w _ H F (Grow.refl dm) (.bl _)
  · cases (show Rep M F H x _ from ra)
    cases (show Rep M F H y _ from rb)
    refine op_notBl pins s σ H _ _ v u Q I rx ry ⟨_, _, rfl, rfl, ?_⟩
    rw [bne, Bool.beq_eq_decide_eq] at w
    exact w _ H F (Grow.refl dm) (.bl _)
  · exact w.elim
theorem RepAll.atI {F : Addr → Prop} {H : Hp} {vs : List V} {ds : List D} {i : Int} {d : D} (r : RepAll M F H vs ds) (h : atI ds i = some d) : ∃ v, L2.atI vs i = some v ∧ Rep M F H v d := by
  unfold L2.atI at h ⊢
  rw [r.length]
  cases e : ixN ds.length i with
  | none => rw [e] at h; cases h
  | some j =>
    rw [e] at h
    obtain ⟨v, h1, h2⟩ := r.get (i := j) (d := d) h
    exact ⟨v, h1, h2⟩
theorem od_ix : IxR X (rD M D.ix) := by
  intro value slice pins s σ H x y v u Q I rx ry ⟨F, a, b, dm, ra, rb, w⟩ hs
  unfold D.ix at w
  split at w
  · obtain ⟨p, vs, rfl, h1, r1⟩ := ra
    cases (show Rep M F H y _ from rb)
    split at w
    · obtain ⟨z, e1, e2⟩ := r1.atI (by assumption)
      exact ix_list value slice pins s σ H _ _ v u Q I rx ry ⟨p, vs, _, z, rfl, rfl, SqL.of h1, e1, w _ H F (Grow.refl dm) e2⟩ hs
    · exact w.elim
  · cases (show Rep M F H x _ from ra) with
    | tup h1 r1 =>
      cases (show Rep M F H y _ from rb)
      split at w
      · obtain ⟨z, e1, e2⟩ := r1.atI (by assumption)
        exact ix_tup value slice pins s σ H _ _ v u Q I rx ry ⟨_, _, _, z, rfl, rfl, SqT.of h1, e1, w _ H F (Grow.refl dm) e2⟩ hs
      · exact w.elim
  · cases (show Rep M F H x _ from ra) with
    | str h1 =>
      cases (show Rep M F H y _ from rb)
      split at w
      · rename_i c hc
        obtain ⟨j, _, e, _⟩ := atI_get hc
        have hm := List.mem_of_getElem? e
        refine ix_str value slice pins s σ H _ _ v u Q I rx ry ⟨_, _, c, rfl, rfl, by rw [str_len, lim_eq]; exact h1.1, by simpa using hc, ?_⟩ hs
        exact w (.str ⟨#[c]⟩) H F (Grow.refl dm) (.str (s := [c]) ⟨by simp [lim], fun c' h' => by simp at h'; subst h'; exact h1.2 c' hm⟩)
      · exact w.elim
  · exact w.elim
end
end CL

namespace CL
open PySem PySem.Spec PyProof.Rows L2

/-! ### what is walked -/
structure DWalk (M : Md) (J : It) (F : Addr → Prop) (H : Hp) (ds : List D) : Prop where
  go : ∀ i H', i < ds.length → Keep F H H' → J.go i H'
  stop : ∀ H', Keep F H H' → J.stop ds.length H'
  yld : ∀ i H' x H'', i < ds.length → Keep F H H' → J.yld i H' x H'' → ∃ d, ds[i]? = some d ∧ (H'' = H' ∨ ∃ T xs, H' T = none ∧ H'' = upd H' T (.tup xs)) ∧ Rep M F H'' x d
def tI (M : Md) (W : WX) (O : List Nat) (f : DEnv → R (List D)) : TI := fun σ H K => ∃ δ F, EInv M O F H σ δ ∧
  (f δ).wp (fun ds => ∀ J H' F', Grow F H F' H' → DWalk M J F' H' ds → K J H') (fun n => ∀ H' F', Grow F H F' H' → W (.ref (M.xc n)) none σ H')
theorem pi_imp {X : Cx} {tg e : Expr} {t t' : TI} (h : PI X tg e t) (i : ∀ σ H Q, t' σ H Q → t σ H Q) : PI X tg e t' := ⟨fun pins s σ H Q I q => h.run pins s σ H Q I (i σ H Q q)⟩
theorem pg_imp {X : Cx} {tg : Expr} {t t' : TG} (h : PG X tg t) (i : ∀ v σ H Q, t' v σ H Q → t v σ H Q) : PG X tg t' := ⟨fun pins s σ H v u Q I r q => h.run pins s σ H v u Q I r (i v σ H Q q)⟩
def lstOf (f : DEnv → R D) : DEnv → R (List D) := fun δ => (f δ).bind fun d => match d with | .lst l => .ok l | _ => .bad
def tupOf (f : DEnv → R D) : DEnv → R (List D) := fun δ => (f δ).bind fun d => match d with | .tup l => .ok l | _ => .bad
def strOf (f : DEnv → R D) : DEnv → R (List D) := fun δ => (f δ).bind fun d => match d with | .str l => .ok (l.map fun c => .str [c]) | _ => .bad
def rngL (lo : Int) (n : Nat) : List D := (List.range n).map fun (i : Nat) => .int (lo + (i : Nat))
def rng1 (fs : DEnv → R (List D)) : DEnv → R (List D) := fun δ => (fs δ).bind fun ds => match ds with
  | [.int j] => if wid 1000000 j = true then .ok (rngL 0 j.toNat) else .bad
  | _ => .bad
def rng2 (fs : DEnv → R (List D)) : DEnv → R (List D) := fun δ => (fs δ).bind fun ds => match ds with
  | [.int i, .int j] => if wid 1000000 i = true ∧ wid 1000000 j = true then .ok (rngL i (j - i).toNat) else .bad
  | _ => .bad
section
variable {X : Cx} {M : Md} {W : WX} {O : List Nat} {tg e : Expr} {f : DEnv → R D} {pos : Pos}
theorem walkL {F : Addr → Prop} {H : Hp} {K : PySem.W.Frag} {a : Addr} {vs : List V} {ds : List D} (hF : F a) (h : H a = some (.lst vs)) (r : RepAll M F H vs ds) : DWalk M (Itl K a) F H ds where
  go := fun i H' hi k => by
    obtain ⟨v, hv, _⟩ := r.get (i := i) (d := ds[i]) (by simp [hi])
    exact ⟨vs, v, SqL.of (k.1 a _ hF h), hv⟩
  stop := fun H' k => ⟨vs, SqL.of (k.1 a _ hF h), by rw [r.length]; exact Nat.le_refl _⟩
  yld := fun i H' x H'' hi k y => by
    obtain ⟨rfl, y⟩ := y
    have hv := y vs (SqL.of (k.1 a _ hF h))
    obtain ⟨d, e, q⟩ := r.get' hv
    exact ⟨d, e, .inl rfl, q.mono k fun _ z => z⟩
theorem walkT {F : Addr → Prop} {H : Hp} {K : PySem.W.Frag} {a : Addr} {vs : List V} {ds : List D} (h : H a = some (.tup vs)) (r : RepAll M F H vs ds) : DWalk M (Itt K a) F H ds where
  go := fun i H' hi k => by
    obtain ⟨v, hv, _⟩ := r.get (i := i) (d := ds[i]) (by simp [hi])
    exact ⟨vs, v, SqT.of (k.2.1 a vs h), hv⟩
  stop := fun H' k => ⟨vs, SqT.of (k.2.1 a vs h), by rw [r.length]; exact Nat.le_refl _⟩
  yld := fun i H' x H'' hi k y => by
    obtain ⟨rfl, y⟩ := y
    have hv := y vs (SqT.of (k.2.1 a vs h))
    obtain ⟨d, e, q⟩ := r.get' hv
    exact ⟨d, e, .inl rfl, q.mono k fun _ z => z⟩
theorem walkS {F : Addr → Prop} {H : Hp} {s : List Nat} (ok : strOk s) : DWalk M (Its ⟨s.toArray⟩) F H (s.map fun c => .str [c]) where
  go := fun i H' hi k => by simpa [Its] using hi
  stop := fun H' k => by simp [Its]
  yld := fun i H' x H'' hi k y => by
    obtain ⟨rfl, c, hc, rfl⟩ := y
    have hc' : s[i]? = some c := by simpa using hc
    exact ⟨.str [c], by simp [hc'], .inl rfl, .str (s := [c]) ⟨by simp [lim], fun c' h' => by simp at h'; subst h'; exact ok.2 _ (List.mem_of_getElem? hc')⟩⟩
theorem walkR {F : Addr → Prop} {H : Hp} {lo : Int} {n : Nat} : DWalk M (Itr lo n) F H (rngL lo n) where
  go := fun i H' hi k => by simpa [Itr, rngL] using hi
  stop := fun H' k => by simp [Itr, rngL]
  yld := fun i H' x H'' hi k y => by
    obtain ⟨rfl, rfl⟩ := y
    have hi' : i < n := by simpa [rngL] using hi
    exact ⟨.int (lo + i), by simp [rngL, hi'], .inl rfl, .int _⟩
theorem si_list (h : PE X e (tD M W O f)) : PI X tg e (tI M W O (lstOf f)) := pi_imp (pi_list h) fun σ H Q ⟨δ, F, I, w⟩ => by
  refine tE.one I w fun d v H1 F1 ed g1 r w1 => ?_
  cases d with
  | lst l => cases r with | lst h1 h2 h3 => exact ⟨_, rfl, ⟨_, SqL.of h2⟩, w1 _ H1 F1 g1 (walkL h1 h2 h3)⟩
  | _ => exact w1.elim
theorem si_tup (h : PE X e (tD M W O f)) : PI X tg e (tI M W O (tupOf f)) := pi_imp (pi_tup h) fun σ H Q ⟨δ, F, I, w⟩ => by
  refine tE.one I w fun d v H1 F1 ed g1 r w1 => ?_
  cases d with
  | tup l => cases r with | tup h2 h3 => exact ⟨_, rfl, ⟨_, SqT.of h2⟩, w1 _ H1 F1 g1 (walkT h2 h3)⟩
  | _ => exact w1.elim
theorem si_str (h : PE X e (tD M W O f)) : PI X tg e (tI M W O (strOf f)) := pi_imp (pi_str h) fun σ H Q ⟨δ, F, I, w⟩ => by
  refine tE.one I w fun d v H1 F1 ed g1 r w1 => ?_
  cases d with
  | str l => cases r with | str ok => exact ⟨_, rfl, w1 _ H1 F1 g1 (walkS ok)⟩
  | _ => exact w1.elim
theorem tA.one {P : PR} {fs : DEnv → R (List D)} {σ : L2.St} {H : Hp} {δ : DEnv} {F : Addr → Prop} {β : Type} {k : List D → R β} {P' : β → Prop} {Q : List V → Hp → Prop} (I : EInv M O F H σ δ)
    (w : ((fs δ).bind k).wp P' (fun n => ∀ H' F', Grow F H F' H' → W (.ref (M.xc n)) none σ H'))
    (h : ∀ ds vs H' F', fs δ = .ok ds → Grow F H F' H' → All2 (P F' H') vs ds → (k ds).wp P' (fun n => ∀ H' F', Grow F H F' H' → W (.ref (M.xc n)) none σ H') → Q vs H') : tA M W O P fs σ H Q :=
  ⟨δ, F, I, R.wp_mono (R.wp_bind w) (fun d ed q v H' F' g r => h d v H' F' ed g r q) fun _ q => q⟩
theorem si_rng1 {a : Expr} {p : Pos} {fs : DEnv → R (List D)} (hm : X.mg "range" = none) (ha : PA X [a] (tA M W O (RepB M) fs)) (hg : Gl X "range" := by rfl) (hs : starEach [a] X.env = [(false, eval a X.env)] := by rfl) : PI X tg (.Call (.Name "range" p) [a] [] pos) (tI M W O (rng1 fs)) :=
  pi_imp (pi_range1 hg hm ha hs) fun σ H Q ⟨δ, F, I, w⟩ => by
    refine tA.one I w fun ds vs H1 F1 ed g1 r w1 => ?_
    split at w1
    · split at w1
      · rename_i h
        cases r with
        | cons r1 r2 =>
          cases r2
          cases (show Rep M F1 H1 _ _ from r1)
          have hw := wid_iff.1 h
          exact ⟨_, rfl, by omega, by omega, w1 _ H1 F1 g1 walkR⟩
      · exact w1.elim
    · exact w1.elim
theorem si_rng2 {a b : Expr} {p : Pos} {fs : DEnv → R (List D)} (hm : X.mg "range" = none) (ha : PA X [a, b] (tA M W O (RepB M) fs)) (hg : Gl X "range" := by rfl) (hs : starEach [a, b] X.env = [(false, eval a X.env), (false, eval b X.env)] := by rfl) (hs2 : starEach [b] X.env = [(false, eval b X.env)] := by rfl) : PI X tg (.Call (.Name "range" p) [a, b] [] pos) (tI M W O (rng2 fs)) :=
  pi_imp (pi_range2 hg hm ha hs hs2) fun σ H Q ⟨δ, F, I, w⟩ => by
    refine tA.one I w fun ds vs H1 F1 ed g1 r w1 => ?_
    split at w1
    · split at w1
      · rename_i h
        cases r with
        | cons r1 r2 =>
          cases r2 with
          | cons r2 r3 =>
            cases r3
            cases (show Rep M F1 H1 _ _ from r1)
            cases (show Rep M F1 H1 _ _ from r2)
            have hw := wid_iff.1 h.1
            have hw' := wid_iff.1 h.2
            exact ⟨_, _, rfl, ⟨by omega, by omega, by omega, by omega⟩, w1 _ H1 F1 g1 walkR⟩
      · exact w1.elim
    · exact w1.elim

/-! ### targets -/
def tGt (M : Md) (O vs : List Nat) (gi : D → DEnv → R DEnv) : TG := fun v σ H Q => ∃ δ F d, EInv M O F H σ δ ∧ Rep M F H v d ∧ (gi d δ).wp (fun δ' => ∀ σ', EInv M O F H σ' δ' → wipe σ' vs = wipe σ vs → (∀ j, j ∈ O → j ∉ vs ∧ δ'[j]? = δ[j]?) → Q σ' H) (fun _ => False)
def put (i : Nat) (d : D) (δ : DEnv) : R DEnv := .ok (δ.set i (some d))
theorem filter_ne {O : List Nat} {i : Nat} (h : O.contains i = false) : O.filter (· != i) = O := by
  rw [List.filter_eq_self]
  intro j hj
  have : j ≠ i := fun e => by subst e; simp [hj] at h
  simpa using this
theorem wipe_set {σ : L2.St} {i : Nat} {v : V} : wipe (σ.set i (some v)) [i] = wipe σ [i] := by
  unfold wipe wipe
  rw [List.set_set]
theorem sg_name (i : Nat) {x : Str} (hN : X.N.Nodup) (hO : O.contains i = false := by rfl) (hi : X.N[i]? = some x := by rfl) (hx : Loc X.env.scope x := by first | exact Or.inl rfl | exact Or.inr rfl) (hf : X.fn x = true ∨ X.env.scope.names.lookup x = some .local := by first | exact .inl rfl | exact .inr rfl) :
    PG X (.Name x pos) (tGt M O [i] (put i)) := pg_imp (pg_name hN hi hx hf) fun v σ H Q ⟨δ, F, d, I, r, w⟩ => by
  have I2 := I.set (i := i) r
  rw [filter_ne hO] at I2
  refine w _ I2 wipe_set fun j hj => ?_
  have ne : j ≠ i := fun z => by subst z; simp [hj] at hO
  exact ⟨by simpa using ne, List.getElem?_set_ne (Ne.symm ne)⟩
def put2 (i j : Nat) (d : D) (δ : DEnv) : R DEnv := match d with
  | .tup [a, b] => .ok ((δ.set i (some a)).set j (some b))
  | _ => .bad
def put3 (i j k : Nat) (d : D) (δ : DEnv) : R DEnv := match d with
  | .tup [a, b, c] => .ok (((δ.set i (some a)).set j (some b)).set k (some c))
  | _ => .bad
theorem set_none_ne {σ : L2.St} {i j : Nat} {x y : Option V} (h : i ≠ j) : (σ.set i x).set j y = (σ.set j y).set i x := List.set_comm _ _ h
theorem sg_tup2 (i j : Nat) {x y : Str} {p1 p2 : Pos} {k : Nat} (hN : X.N.Nodup) (hc : X.calm = true) (hO : O.contains i = false := by rfl) (hO' : O.contains j = false := by rfl) (hi : X.N[i]? = some x := by rfl) (hj : X.N[j]? = some y := by rfl)
    (hx : Loc X.env.scope x := by first | exact Or.inl rfl | exact Or.inr rfl) (hf : X.fn x = true ∨ X.env.scope.names.lookup x = some .local := by first | exact .inl rfl | exact .inr rfl)
    (hy : Loc X.env.scope y := by first | exact Or.inl rfl | exact Or.inr rfl) (hf' : X.fn y = true ∨ X.env.scope.names.lookup y = some .local := by first | exact .inl rfl | exact .inr rfl) :
    PG X (.Tuple [.Name x p1, .Name y p2] k pos) (tGt M O [i, j] (put2 i j)) := pg_imp (pg_tup hc (pgs_cons (pg_name (i := i) hN hi hx hf) (pgs_cons (pg_name (i := j) hN hj hy hf') pgs_nil))) fun v σ H Q ⟨δ, F, d, I, r, w⟩ => by
  unfold put2 at w
  split at w
  · cases r with
    | tup h1 h2 =>
      cases h2 with
      | cons ra h3 => cases h3 with
        | cons rb h4 =>
          cases h4
          refine ⟨_, _, rfl, SqT.of h1, rfl, _, _, rfl, _, _, rfl, rfl, ?_⟩
          have I2 := I.set (i := i) ra
          rw [filter_ne hO] at I2
          have I3 := I2.set (i := j) rb
          rw [filter_ne hO'] at I3
          refine w _ I3 ?_ fun j' hj' => ?_
          rotate_left
          · have n1 : j' ≠ i := fun z => by subst z; simp [hj'] at hO
            have n2 : j' ≠ j := fun z => by subst z; simp [hj'] at hO'
            exact ⟨by simp [n1, n2], by rw [List.getElem?_set_ne (Ne.symm n2), List.getElem?_set_ne (Ne.symm n1)]⟩
          unfold wipe wipe wipe
          by_cases e : i = j
          · subst e; simp [List.set_set]
          · rw [List.set_set, set_none_ne (Ne.symm e), List.set_set, set_none_ne e]
  · exact w.elim
theorem sg_tup3 (i j l : Nat) {x y z : Str} {p1 p2 p3 : Pos} {k : Nat} (hN : X.N.Nodup) (hc : X.calm = true) (hij : i ≠ j ∧ i ≠ l ∧ j ≠ l := by decide) (hO : O.contains i = false := by rfl) (hO' : O.contains j = false := by rfl) (hO2 : O.contains l = false := by rfl) (hi : X.N[i]? = some x := by rfl) (hj : X.N[j]? = some y := by rfl) (hl : X.N[l]? = some z := by rfl)
    (hx : Loc X.env.scope x := by first | exact Or.inl rfl | exact Or.inr rfl) (hf : X.fn x = true ∨ X.env.scope.names.lookup x = some .local := by first | exact .inl rfl | exact .inr rfl)
    (hy : Loc X.env.scope y := by first | exact Or.inl rfl | exact Or.inr rfl) (hf' : X.fn y = true ∨ X.env.scope.names.lookup y = some .local := by first | exact .inl rfl | exact .inr rfl)
    (hz : Loc X.env.scope z := by first | exact Or.inl rfl | exact Or.inr rfl) (hf2 : X.fn z = true ∨ X.env.scope.names.lookup z = some .local := by first | exact .inl rfl | exact .inr rfl) :
    PG X (.Tuple [.Name x p1, .Name y p2, .Name z p3] k pos) (tGt M O [i, j, l] (put3 i j l)) := pg_imp (pg_tup hc (pgs_cons (pg_name (i := i) hN hi hx hf) (pgs_cons (pg_name (i := j) hN hj hy hf') (pgs_cons (pg_name (i := l) hN hl hz hf2) pgs_nil)))) fun v σ H Q ⟨δ, F, d, I, r, w⟩ => by
  unfold put3 at w
  split at w
  · cases r with
    | tup h1 h2 =>
      cases h2 with
      | cons ra h3 => cases h3 with
        | cons rb h4 => cases h4 with
          | cons rc h5 =>
            cases h5
            refine ⟨_, _, rfl, SqT.of h1, rfl, _, _, rfl, _, _, rfl, _, _, rfl, rfl, ?_⟩
            have I2 := I.set (i := i) ra
            rw [filter_ne hO] at I2
            have I3 := I2.set (i := j) rb
            rw [filter_ne hO'] at I3
            have I4 := I3.set (i := l) rc
            rw [filter_ne hO2] at I4
            refine w _ I4 ?_ fun j' hj' => ?_
            rotate_left
            · have n1 : j' ≠ i := fun z => by subst z; simp [hj'] at hO
              have n2 : j' ≠ j := fun z => by subst z; simp [hj'] at hO'
              have n3 : j' ≠ l := fun z => by subst z; simp [hj'] at hO2
              exact ⟨by simp [n1, n2, n3], by rw [List.getElem?_set_ne (Ne.symm n3), List.getElem?_set_ne (Ne.symm n2), List.getElem?_set_ne (Ne.symm n1)]⟩
            unfold wipe wipe wipe wipe
            rw [List.set_set, set_none_ne hij.2.2, set_none_ne hij.2.1]
            rw [List.set_comm _ _ (Ne.symm hij.2.2), List.set_set, List.set_comm _ _ hij.1]
            rw [List.set_comm (none) _ (Ne.symm hij.2.1)]
            simp [List.set_set, List.set_comm _ _ hij.1, List.set_comm _ _ hij.2.1, List.set_comm _ _ hij.2.2]
  · exact w.elim
end
end CL

namespace CL
open PySem PySem.Spec PyProof.Rows L2

/-! ### list comprehensions -/
abbrev W0 : WX := fun _ _ _ _ => False
def R.tot {α : Type} : R α → R α
  | .ok a => .ok a
  | _ => .bad
def wipeD (δ : DEnv) : List Nat → DEnv
  | [] => δ
  | v :: vs => (wipeD δ vs).set v none
def lcLoop (δ : DEnv) (gi : D → DEnv → R DEnv) (ft : DEnv → R Bool) (fe : DEnv → R D) : List D → R (List D)
  | [] => .ok []
  | d :: ds => (gi d δ).bind fun δ1 => (ft δ1).bind fun b => if b then (fe δ1).bind fun y => (lcLoop δ gi ft fe ds).bind fun r => .ok (y :: r) else lcLoop δ gi ft fe ds
def lcV (vs : List Nat) (fi : DEnv → R (List D)) (gi : D → DEnv → R DEnv) (ft : DEnv → R Bool) (fe : DEnv → R D) : DEnv → R D := fun δ => (fi δ).bind fun ds =>
  if ds.length ≤ lim then (lcLoop (wipeD δ vs) gi ft fe ds).tot.bind fun l => .ok (.lst l) else .bad
def yesT (_ : DEnv) : R Bool := .ok true
theorem R.tot_ok {α : Type} {x : R α} {a : α} (h : x.tot = .ok a) : x = .ok a := by
  cases x with
  | ok b => exact h
  | exc n => cases h
  | bad => cases h
theorem R.bind_ok {α β : Type} {x : R α} {k : α → R β} {b : β} (h : x.bind k = .ok b) : ∃ a, x = .ok a ∧ k a = .ok b := by
  cases x with
  | ok a => exact ⟨a, rfl, h⟩
  | exc n => cases h
  | bad => cases h
section
variable {X : Cx} {M : Md} {W : WX} {O : List Nat} {pos : Pos}
theorem wipeD_length (δ : DEnv) : ∀ vs, (wipeD δ vs).length = δ.length
  | [] => rfl
  | v :: vs => by unfold wipeD; rw [List.length_set, wipeD_length δ vs]
theorem wipeD_some {δ : DEnv} {i : Nat} {d : D} : ∀ {vs : List Nat}, (wipeD δ vs)[i]? = some (some d) → δ[i]? = some (some d) ∧ i ∉ vs
  | [], h => ⟨h, by simp⟩
  | v :: vs, h => by
    unfold wipeD at h
    by_cases hi : v = i
    · subst hi
      by_cases hv : v < (wipeD δ vs).length
      · rw [List.getElem?_set_self hv] at h; cases h
      · rw [List.getElem?_eq_none (by simpa using hv)] at h; cases h
    · rw [List.getElem?_set_ne hi] at h
      obtain ⟨h1, h2⟩ := wipeD_some h
      exact ⟨h1, by simp only [List.mem_cons, not_or]; exact ⟨fun e => hi e.symm, h2⟩⟩
theorem EInv.wiped {F : Addr → Prop} {H : Hp} {σ : L2.St} {δ : DEnv} (I : EInv M O F H σ δ) (vs : List Nat) : EInv M O F H (wipe σ vs) (wipeD δ vs) := by
  refine ⟨by rw [wipe_length, wipeD_length]; exact I.len, I.dom, fun i d hi e => ?_, fun i d hi e => ?_, fun i j p d e hi hj q q' z z' => ?_⟩
  · obtain ⟨e1, n⟩ := wipeD_some e
    rw [wipe_out n]
    exact I.fr i d hi e1
  · obtain ⟨e1, n⟩ := wipeD_some e
    rw [wipe_out n]
    exact I.own i d hi e1
  · exact I.sep i j p d e hi hj (wipeD_some q).1 (wipeD_some q').1 (wipe_some z).1 (wipe_some z').1
theorem st_nil : PTs X [] (tT M W O yesT) := ⟨fun pins s σ H Q I ⟨δ, F, E, w⟩ => pts_nil.run pins s σ H Q I (w H F (Grow.refl E.dom))⟩
theorem st_one {c : Expr} {ft : DEnv → R Bool} (h : PT X c (tT M W O ft)) : PTs X [c] (tT M W O ft) := pts_one h
/-- what holds between two turns: the list at A holds what was made -/
structure LcI (M : Md) (F1 : Addr → Prop) (H1 : Hp) (A : Addr) (tot rest : List D) (H : Hp) : Prop where
  ex : ∃ F acc accd, Grow F1 H1 F H ∧ ¬ F A ∧ H A = some (.lst acc) ∧ RepAll M F H acc accd ∧ accd ++ rest = tot
theorem wipe_in {σ : L2.St} {i : Nat} : ∀ {vs : List Nat}, i ∈ vs → (wipe σ vs)[i]? = if i < σ.length then some none else none
  | v :: vs, h => by
    unfold wipe
    by_cases hi : v = i
    · subst hi
      by_cases hl : v < σ.length
      · rw [List.getElem?_set_self (by rw [wipe_length]; exact hl), if_pos hl]
      · rw [if_neg hl]
        exact List.getElem?_eq_none (by rw [List.length_set, wipe_length]; omega)
    · rw [List.getElem?_set_ne hi]
      exact wipe_in ((List.mem_cons.mp h).resolve_left (Ne.symm hi))
theorem wipe_wipe {σ : L2.St} {vs : List Nat} : wipe (wipe σ vs) vs = wipe σ vs := by
  apply List.ext_getElem?
  intro i
  by_cases h : i ∈ vs
  · rw [wipe_in h, wipe_in h, wipe_length]
  · rw [wipe_out h]
theorem tLc_of {vs : List Nat} {fi : DEnv → R (List D)} {gi : D → DEnv → R DEnv} {ft : DEnv → R Bool} {fe : DEnv → R D} {σ : L2.St} {H : Hp} {Q : VK} (h : tD M W O (lcV vs fi gi ft fe) σ H Q) : tLc (tI M W O fi) (tGt M O vs gi) (tT M W0 O ft) (tD M W0 O fe) vs σ H Q := by
  obtain ⟨δ, F, I, w⟩ := h
  refine ⟨δ, F, I, R.wp_mono (R.wp_bind w) (fun ds eds w1 J H1 F1 g1 dw => ?_) fun _ q => q⟩
  intro A hA
  by_cases hl : ds.length ≤ lim
  · rw [if_pos hl] at w1
    cases el : (lcLoop (wipeD δ vs) gi ft fe ds).tot with
    | exc n => rw [el] at w1; unfold R.tot at el; split at el <;> cases el
    | bad => rw [el] at w1; exact w1.elim
    | ok tot =>
      rw [el] at w1
      have el := R.tot_ok el
      have A1 : Grow F1 H1 F1 (upd H1 A (.lst [])) := Grow.newT g1.dom hA
      have nA : ¬ F1 A := fun z => by obtain ⟨o, e⟩ := g1.dom A z; rw [hA] at e; cases e
      -- by the turn
      let Pv : Nat → Hp → Prop := fun i H' => ∃ rest, lcLoop (wipeD δ vs) gi ft fe (ds.drop i) = .ok rest ∧ ∃ F' acc accd, Grow F1 H1 F' H' ∧ ¬ F' A ∧ H' A = some (.lst acc) ∧ RepAll M F' H' acc accd ∧ accd ++ rest = tot ∧ accd.length ≤ i
      have wk : Walk J ds.length (fun H' => Keep F1 H1 H') (fun i H' x H'' => Keep F1 H1 H' ∧ J.yld i H' x H'') := ⟨fun i H' hi k => dw.go i H' hi k, fun H' k => dw.stop H' k, fun i H' x H'' hi k y => ⟨k, y⟩⟩
      refine lc_it wk Pv ⟨tot, by simpa using el, F1, [], [], A1, nA, upd_same, .nil, rfl, Nat.le_refl _⟩ (fun i H' hi p => ?_) (fun i x H' H'' hi p y => ?_) (fun H' p => ?_)
      · obtain ⟨_, _, F', _, _, gg, _⟩ := p
        exact gg.keep
      · obtain ⟨rest, er, F', acc, accd, gg, nF, hAacc, ra, ea, la⟩ := p
        obtain ⟨k, y⟩ := y
        obtain ⟨d, ed, hH, rx⟩ := dw.yld i H' x H'' hi k y
        -- the heap behind the iterator
        have g2 : Grow F' H' F' H'' := by
          rcases hH with e | ⟨T, xs, hT, e⟩
          · rw [e]; exact Grow.refl gg.dom
          · rw [e]; exact Grow.newT gg.dom hT
        have gg2 := gg.trans g2
        have rx' : Rep M F' H'' x d := rx.mono ⟨fun _ _ _ e => e, fun _ _ e => e, fun _ _ _ e => e⟩ gg.2.1
        have hdrop : ds.drop i = d :: ds.drop (i + 1) := by
          obtain ⟨hlt, e1⟩ := List.getElem?_eq_some_iff.mp ed
          rw [List.drop_eq_getElem_cons hlt, e1]
        rw [hdrop] at er
        unfold lcLoop at er
        obtain ⟨δ1, e1, er⟩ := R.bind_ok er
        obtain ⟨b, e2, er⟩ := R.bind_ok er
        have I0 : EInv M O F' H'' (wipe σ vs) (wipeD δ vs) := ((I.grow g1).grow gg2).wiped vs
        refine ⟨wipeD δ vs, F', d, I0, rx', ?_⟩
        rw [e1]
        intro σ2 I2 hw _
        refine ⟨by rw [hw]; exact wipe_wipe, δ1, F', I2, ?_⟩
        rw [e2]
        intro H3 F3 g3
        have nF3 : ¬ F3 A := fun z => by
          rcases g3.2.2.1 A z with q | q
          · exact nF q
          · rw [g2.1 A _ hAacc] at q; cases q
        have hA3 := g3.1 A _ (g2.1 A _ hAacc)
        cases b with
        | false =>
          simp only [Bool.false_eq_true, if_false] at er ⊢
          exact ⟨rest, er, F3, acc, accd, gg2.trans g3, nF3, hA3, (ra.grow g2).grow g3, ea, Nat.le_succ_of_le la⟩
        | true =>
          simp only [if_true] at er ⊢
          obtain ⟨yv, e3, er⟩ := R.bind_ok er
          obtain ⟨r', e4, er⟩ := R.bind_ok er
          cases er
          refine ⟨δ1, F3, I2.grow g3, ?_⟩
          rw [e3]
          intro v4 H4 F4 g4 r4
          have hA4 := g4.1 A _ hA3
          have nF4 : ¬ F4 A := fun z => by
            rcases g4.2.2.1 A z with q | q
            · exact nF3 q
            · rw [hA3] at q; cases q
          have kk : Keep F4 H4 (upd H4 A (.lst (acc ++ [v4]))) := by
            refine ⟨fun a us hF e => ?_, fun a us e => ?_, fun a o u e => ?_⟩
            · have ne : a ≠ A := fun z => nF4 (by rw [← z]; exact hF)
              rw [upd_ne ne]; exact e
            · rw [upd_ne (ne_of e hA4 (by intro z; cases z))]; exact e
            · rw [upd_ne (ne_of e hA4 (by intro z; cases z))]; exact e
          refine ⟨acc, hA4, ?_, r', e4, F4, acc ++ [v4], accd ++ [yv], ?_, nF4, upd_same, ?_, ?_, ?_⟩
          · rw [ra.length, lim_eq]; omega
          · have gA := (gg2.trans g3).trans g4
            refine ⟨fun a o e => ?_, gA.2.1, gA.2.2.1, fun a e => ?_⟩
            · rw [upd_ne (fun z => by subst z; rw [hA] at e; cases e)]; exact gA.1 a o e
            · obtain ⟨o, e1⟩ := gA.2.2.2 a e
              have ne : a ≠ A := fun z => nF4 (by rw [← z]; exact e)
              exact ⟨o, by rw [upd_ne ne]; exact e1⟩
          · exact ((((ra.grow g2).grow g3).grow g4).mono kk fun _ z => z).append (.cons (r4.mono kk fun _ z => z) .nil)
          · rw [List.append_assoc]; exact ea
          · rw [List.length_append]; simp; omega
      · obtain ⟨rest, er, F', acc, accd, gg, nF, hAacc, ra, ea, la⟩ := p
        rw [List.drop_length] at er
        cases er
        rw [List.append_nil] at ea
        subst ea
        have up : ∀ a, F' a → (fun a => F' a ∨ a = A) a := fun a z => .inl z
        have kp : Keep F' H' H' := ⟨fun _ _ _ e => e, fun _ _ e => e, fun _ _ _ e => e⟩
        refine w1 (.ref A) H' (fun a => F' a ∨ a = A) ?_ (.lst (.inr rfl) hAacc (ra.mono kp up))
        have gA := g1.trans gg
        refine ⟨gA.1, fun a z => .inl (gA.2.1 a z), fun a z => ?_, fun a z => ?_⟩
        · rcases z with z | z
          · exact gA.2.2.1 a z
          · right
            rw [z]
            cases q : H A with
            | none => rfl
            | some o => rw [g1.1 A o q] at hA; cases hA
        · rcases z with z | z
          · exact gA.2.2.2 a z
          · rw [z]; exact ⟨_, hAacc⟩
  · rw [if_neg hl] at w1; exact w1.elim
theorem sd_lc {elt tg iter : Expr} {ifs : List Expr} {scope : Scope} {own : List (Str × Nat)} {vs : List Nat} {fi : DEnv → R (List D)} {gi : D → DEnv → R DEnv} {ft : DEnv → R Bool} {fe : DEnv → R D} (hc : X.calm = true) (hN : X.N.Nodup)
    (hi : PI X tg iter (tI M W O fi)) (ok : BlkOk X.N X.env.scope scope own) (hv : own.map (·.2) = vs)
    (hg : ∀ (s : Shared) (H : Hp) (C : Addr) (cl : List (Str × Addr)) (fp : List Addr), PG (X.blk s H scope (compEnvC scope cl C X.env) fp) tg (tGt M O vs gi))
    (ht : ∀ (s : Shared) (H : Hp) (C : Addr) (cl : List (Str × Addr)) (fp : List Addr), PTs (X.blk s H scope (compEnvC scope cl C X.env) fp) ifs (tT M W0 O ft))
    (he : ∀ (s : Shared) (H : Hp) (C : Addr) (cl : List (Str × Addr)) (fp : List Addr), PE (X.blk s H scope (compEnvC scope cl C X.env) fp) elt (tD M W0 O fe))
    (hs : ∀ x, foldedSetIterable iter X.env x = pure x := by intro _; rfl) :
    PE X (.ListComp elt [⟨tg, iter, ifs, 0⟩] scope pos) (tD M W O (lcV vs fi gi ft fe)) := pe_imp (pe_lc hc hN hi ok hg ht he hs) fun σ H Q h => by
  rw [hv]
  exact tLc_of h
end
end CL

namespace CL
open PySem PySem.Spec PyProof.Rows L2

/-! ### statements -/
inductive Out where
  | nxt (δ : DEnv) | ret (d : D) | brk (δ : DEnv) | cnt (δ : DEnv) | exc (n : Nat) (δ : DEnv) | bad
structure SInv (M : Md) (H0 : Hp) (F0 : Addr → Prop) (O : List Nat) (F : Addr → Prop) (H : Hp) (σ : L2.St) (δ : DEnv) : Prop where
  e : EInv M O F H σ δ
  sub : ∀ a o, H0 a = some o → H a = some o
  up : ∀ a, F0 a → F a
  low : ∀ a, F a → F0 a ∨ H0 a = none
  new : ∀ i d p, i ∈ O → δ[i]? = some (some d) → σ[i]? = some (some (.ref p)) → H0 p = none
section
variable {M : Md} {H0 : Hp} {F0 : Addr → Prop} {O : List Nat} {F F' : Addr → Prop} {H H' : Hp} {σ : L2.St} {δ : DEnv}
theorem SInv.grow (I : SInv M H0 F0 O F H σ δ) (g : Grow F H F' H') : SInv M H0 F0 O F' H' σ δ := by
  refine ⟨I.e.grow g, fun a o e => g.1 a o (I.sub a o e), fun a e => g.2.1 a (I.up a e), fun a e => ?_, I.new⟩
  rcases g.2.2.1 a e with q | q
  · exact I.low a q
  · right
    cases z : H0 a with
    | none => rfl
    | some o => rw [I.sub a o z] at q; cases q
theorem SInv.g0 (I : SInv M H0 F0 O F H σ δ) : Grow F0 H0 F H := ⟨I.sub, I.up, I.low, I.e.dom⟩
theorem SInv.set (I : SInv M H0 F0 O F H σ δ) {i : Nat} {v : V} {d : D} (r : Rep M F H v d) : SInv M H0 F0 (O.filter (· != i)) F H (σ.set i (some v)) (δ.set i (some d)) := by
  refine ⟨I.e.set r, I.sub, I.up, I.low, fun j e p hj q z => ?_⟩
  obtain ⟨h1, h2⟩ := List.mem_filter.mp hj
  have h2 : j ≠ i := by simpa using h2
  rw [List.getElem?_set_ne (Ne.symm h2)] at q z
  exact I.new j e p h1 q z
theorem SInv.setOwn (I : SInv M H0 F0 O F H σ δ) {i : Nat} {p : Addr} {d : D} (nf : ¬ F p) (o : Own M F H p d) (hn : H0 p = none) (new : ∀ j e, j ∈ O → δ[j]? = some (some e) → j ≠ i → σ[j]? ≠ some (some (.ref p))) :
    SInv M H0 F0 (i :: O) F H (σ.set i (some (.ref p))) (δ.set i (some d)) := by
  refine ⟨I.e.setOwn nf o new, I.sub, I.up, I.low, fun j e q hj h z => ?_⟩
  by_cases hji : j = i
  · subst hji
    have hl : j < σ.length := by
      have := (List.getElem?_eq_some_iff.mp z).1
      simpa using this
    rw [List.getElem?_set_self hl] at z
    cases z
    exact hn
  · rw [List.getElem?_set_ne (Ne.symm hji)] at h z
    exact I.new j e q ((List.mem_cons.mp hj).resolve_left hji) h z
theorem SInv.drop (I : SInv M H0 F0 O F H σ δ) (i : Nat) : ∃ F', SInv M H0 F0 (O.filter (· != i)) F' H σ δ := by
  obtain ⟨F', h1, h2, h3⟩ := I.e.drop i
  refine ⟨F', h3, I.sub, fun a e => h1 a (I.up a e), fun a e => ?_, fun j d p hj => I.new j d p (List.mem_filter.mp hj).1⟩
  rcases h2 a e with q | ⟨d, q1, q2, q3⟩
  · exact I.low a q
  · exact .inr (I.new i d a q1 q2 q3)
theorem SInv.dropAll : ∀ {O : List Nat} {F : Addr → Prop}, SInv M H0 F0 O F H σ δ → ∃ F', SInv M H0 F0 [] F' H σ δ := by
  intro O
  generalize hn : O.length = n
  induction n using Nat.strongRecOn generalizing O with
  | _ n ih =>
    intro F I
    cases O with
    | nil => exact ⟨F, I⟩
    | cons i O =>
      obtain ⟨F', I'⟩ := I.drop i
      refine ih _ ?_ rfl I'
      have : ((i :: O).filter (· != i)).length ≤ O.length := by simp; exact List.length_filter_le _ _
      simp at hn
      omega
/-- an owned list changed -/
theorem SInv.mut (I : SInv M H0 F0 O F H σ δ) {i : Nat} {p : Addr} {l0 : List D} {vs : List V} {ds : List D} (hi : i ∈ O) (hd : δ[i]? = some (some (.lst l0))) (hp : σ[i]? = some (some (.ref p))) (r : RepAll M F H vs ds) :
    SInv M H0 F0 O F (upd H p (.lst vs)) σ (δ.set i (some (.lst ds))) := by
  obtain ⟨p', e1, nf, o⟩ := I.e.own i (.lst l0) hi hd
  rw [hp] at e1; cases e1
  have hlst : ∃ us, H p = some (.lst us) := by
    obtain ⟨us, h, _⟩ := o; exact ⟨us, h⟩
  obtain ⟨us, hus⟩ := hlst
  have kk : Keep F H (upd H p (.lst vs)) := by
    refine ⟨fun a us hF e => ?_, fun a us e => ?_, fun a o u e => ?_⟩
    · have ne : a ≠ p := fun z => nf (by rw [← z]; exact hF)
      rw [upd_ne ne]; exact e
    · rw [upd_ne (ne_of e hus (by intro z; cases z))]; exact e
    · rw [upd_ne (ne_of e hus (by intro z; cases z))]; exact e
  have n0 := I.new i (.lst l0) p hi hd hp
  have hl : i < δ.length := (List.getElem?_eq_some_iff.mp hd).1
  refine ⟨⟨by simp [I.e.len], fun a e => ?_, fun j d hj q => ?_, fun j d hj q => ?_, fun j k q d e hj hk h h' z z' => ?_⟩, fun a o e => ?_, I.up, I.low, fun j d q hj h z => ?_⟩
  · obtain ⟨o, e1⟩ := I.e.dom a e
    have ne : a ≠ p := fun z => nf (by rw [← z]; exact e)
    exact ⟨o, by rw [upd_ne ne]; exact e1⟩
  · have hji : j ≠ i := fun z => hj (z ▸ hi)
    rw [List.getElem?_set_ne (Ne.symm hji)] at q
    obtain ⟨v, e1, r1⟩ := I.e.fr j d hj q
    exact ⟨v, e1, r1.mono kk fun _ z => z⟩
  · by_cases hji : j = i
    · subst hji
      rw [List.getElem?_set_self hl] at q
      cases q
      exact ⟨p, hp, nf, vs, upd_same, r.mono kk fun _ z => z⟩
    · rw [List.getElem?_set_ne (Ne.symm hji)] at q
      obtain ⟨q', e1, nf', o'⟩ := I.e.own j d hj q
      have ne : q' ≠ p := fun z => hji (I.e.sep j i p d (.lst l0) hj hi q hd (by rw [e1, z]) hp)
      refine ⟨q', e1, nf', ?_⟩
      cases d with
      | lst l =>
        obtain ⟨ws, h1, h2⟩ := o'
        exact ⟨ws, by rw [upd_ne ne]; exact h1, h2.mono kk fun _ z => z⟩
      | dct l =>
        obtain ⟨es, ep, h1, h2⟩ := o'
        exact ⟨es, ep, by rw [upd_ne ne]; exact h1, h2.mono kk fun _ z => z⟩
      | _ => exact o'.elim
  · have f : ∀ {j d}, (δ.set i (some (.lst ds)))[j]? = some (some d) → ∃ d', δ[j]? = some (some d') := fun {j d} h => by
      by_cases hji : j = i
      · subst hji; exact ⟨_, hd⟩
      · rw [List.getElem?_set_ne (Ne.symm hji)] at h; exact ⟨_, h⟩
    obtain ⟨_, a1⟩ := f h
    obtain ⟨_, a2⟩ := f h'
    exact I.e.sep j k q _ _ hj hk a1 a2 z z'
  · have ne : a ≠ p := fun z => by rw [z, n0] at e; cases e
    rw [upd_ne ne]; exact I.sub a o e
  · by_cases hji : j = i
    · subst hji
      rw [hp] at z; cases z; exact n0
    · rw [List.getElem?_set_ne (Ne.symm hji)] at h
      exact I.new j d q hj h z
/-- an owned dict changed -/
theorem SInv.mutD (I : SInv M H0 F0 O F H σ δ) {i : Nat} {p : Addr} {l0 : List (D × D)} {es : Array DictEntry} {ep : Nat} {ds : List (D × D)} (hi : i ∈ O) (hd : δ[i]? = some (some (.dct l0))) (hp : σ[i]? = some (some (.ref p))) (r : RepEs M F H es.toList ds) :
    SInv M H0 F0 O F (upd H p (DctO p es ep)) σ (δ.set i (some (.dct ds))) := by
  obtain ⟨p', e1, nf, o⟩ := I.e.own i (.dct l0) hi hd
  rw [hp] at e1; cases e1
  have hlst : ∃ us, H p = some (.ext us) := by
    obtain ⟨es, ep, h, _⟩ := o; exact ⟨_, h⟩
  obtain ⟨us, hus⟩ := hlst
  have kk : Keep F H (upd H p (DctO p es ep)) := by
    refine ⟨fun a us hF e => ?_, fun a us e => ?_, fun a o u e => ?_⟩
    · have ne : a ≠ p := fun z => nf (by rw [← z]; exact hF)
      rw [upd_ne ne]; exact e
    · rw [upd_ne (ne_of e hus (by intro z; cases z))]; exact e
    · rw [upd_ne (ne_of e hus (by intro z; cases z))]; exact e
  have n0 := I.new i (.dct l0) p hi hd hp
  have hl : i < δ.length := (List.getElem?_eq_some_iff.mp hd).1
  refine ⟨⟨by simp [I.e.len], fun a e => ?_, fun j d hj q => ?_, fun j d hj q => ?_, fun j k q d e hj hk h h' z z' => ?_⟩, fun a o e => ?_, I.up, I.low, fun j d q hj h z => ?_⟩
  · obtain ⟨o, e1⟩ := I.e.dom a e
    have ne : a ≠ p := fun z => nf (by rw [← z]; exact e)
    exact ⟨o, by rw [upd_ne ne]; exact e1⟩
  · have hji : j ≠ i := fun z => hj (z ▸ hi)
    rw [List.getElem?_set_ne (Ne.symm hji)] at q
    obtain ⟨v, e1, r1⟩ := I.e.fr j d hj q
    exact ⟨v, e1, r1.mono kk fun _ z => z⟩
  · by_cases hji : j = i
    · subst hji
      rw [List.getElem?_set_self hl] at q
      cases q
      exact ⟨p, hp, nf, es, ep, upd_same, r.mono kk fun _ z => z⟩
    · rw [List.getElem?_set_ne (Ne.symm hji)] at q
      obtain ⟨q', e1, nf', o'⟩ := I.e.own j d hj q
      have ne : q' ≠ p := fun z => hji (I.e.sep j i p d (.dct l0) hj hi q hd (by rw [e1, z]) hp)
      refine ⟨q', e1, nf', ?_⟩
      cases d with
      | lst l =>
        obtain ⟨ws, h1, h2⟩ := o'
        exact ⟨ws, by rw [upd_ne ne]; exact h1, h2.mono kk fun _ z => z⟩
      | dct l =>
        obtain ⟨es, ep, h1, h2⟩ := o'
        exact ⟨es, ep, by rw [upd_ne ne]; exact h1, h2.mono kk fun _ z => z⟩
      | _ => exact o'.elim
  · have f : ∀ {j d}, (δ.set i (some (.dct ds)))[j]? = some (some d) → ∃ d', δ[j]? = some (some d') := fun {j d} h => by
      by_cases hji : j = i
      · subst hji; exact ⟨_, hd⟩
      · rw [List.getElem?_set_ne (Ne.symm hji)] at h; exact ⟨_, h⟩
    obtain ⟨_, a1⟩ := f h
    obtain ⟨_, a2⟩ := f h'
    exact I.e.sep j k q _ _ hj hk a1 a2 z z'
  · have ne : a ≠ p := fun z => by rw [z, n0] at e; cases e
    rw [upd_ne ne]; exact I.sub a o e
  · by_cases hji : j = i
    · subst hji
      rw [hp] at z; cases z; exact n0
    · rw [List.getElem?_set_ne (Ne.symm hji)] at h
      exact I.new j d q hj h z
end

def OutP (M : Md) (W : WX) (H0 : Hp) (F0 : Addr → Prop) (O' Ol : List Nat) (E : Ends) : Out → Prop
  | .nxt δ' => ∀ σ' H' F', SInv M H0 F0 O' F' H' σ' δ' → E.nx σ' H'
  | .ret d => ∀ v H' F', Grow F0 H0 F' H' → Rep M F' H' v d → E.rt v H'
  | .brk δ' => ∀ σ' H' F', SInv M H0 F0 Ol F' H' σ' δ' → E.bk σ' H'
  | .cnt δ' => ∀ σ' H' F', SInv M H0 F0 Ol F' H' σ' δ' → E.ct σ' H'
  | .exc n δ' => ∀ σ' H' F', SInv M H0 F0 [] F' H' σ' δ' → W (.ref (M.xc n)) none σ' H'
  | .bad => False
def tS (M : Md) (W : WX) (H0 : Hp) (F0 : Addr → Prop) (O O' Ol : List Nat) (g : DEnv → Out) : TS := fun E σ H => ∃ δ F, SInv M H0 F0 O F H σ δ ∧ OutP M W H0 F0 O' Ol E (g δ)
theorem ps_imp {X : Cx} {st : Stmt} {t t' : TS} (h : PS X st t) (i : ∀ E σ H, t' E σ H → t E σ H) : PS X st t' := ⟨fun pins s σ H Q I q => h.run pins s σ H Q I (i Q σ H q)⟩
theorem pss_imp {X : Cx} {st : List Stmt} {t t' : TS} (h : PSs X st t) (i : ∀ E σ H, t' E σ H → t E σ H) : PSs X st t' := ⟨fun pins s σ H Q I q => h.run pins s σ H Q I (i Q σ H q)⟩
/-- an expression's result in a statement -/
def inS (δ : DEnv) (x : R D) (k : D → Out) : Out := match x with
  | .ok d => k d
  | .exc n => .exc n δ
  | .bad => .bad
def inT (δ : DEnv) (x : R Bool) (k : Bool → Out) : Out := match x with
  | .ok d => k d
  | .exc n => .exc n δ
  | .bad => .bad
def seqS (g1 g2 : DEnv → Out) : DEnv → Out := fun δ => match g1 δ with
  | .nxt δ' => g2 δ'
  | o => o
section
variable {X : Cx} {M : Md} {W : WX} {H0 : Hp} {F0 : Addr → Prop} {O O1 O' Ol : List Nat} {g1 g2 : DEnv → Out} {f : DEnv → R D} {e : Expr} {st : Stmt} {sts : List Stmt} {pos : Pos}
theorem ss_nil : PSs X [] (tS M W H0 F0 O O Ol Out.nxt) := pss_imp pss_nil fun E σ H ⟨δ, F, I, w⟩ => w σ H F I
theorem ss_cons (h1 : PS X st (tS M W H0 F0 O O1 Ol g1)) (h2 : PSs X sts (tS M W H0 F0 O1 O' Ol g2)) : PSs X (st :: sts) (tS M W H0 F0 O O' Ol (seqS g1 g2)) := pss_imp (pss_cons h1 h2) fun E σ H ⟨δ, F, I, w⟩ => by
  refine ⟨δ, F, I, ?_⟩
  unfold seqS at w
  cases e : g1 δ with
  | nxt δ' =>
    rw [e] at w
    exact fun σ' H' F' I' => ⟨δ', F', I', w⟩
  | ret d => rw [e] at w; exact w
  | brk d => rw [e] at w; exact w
  | cnt d => rw [e] at w; exact w
  | exc n d => rw [e] at w; exact w
  | bad => rw [e] at w; exact w.elim
theorem ss_one (h1 : PS X st (tS M W H0 F0 O O' Ol g1)) : PSs X [st] (tS M W H0 F0 O O' Ol g1) := pss_one h1
/-- slot i shares its list from here on -/
theorem ss_let (i : Nat) (h : PSs X sts (tS M W H0 F0 (O.filter (· != i)) O' Ol g1)) : PSs X sts (tS M W H0 F0 O O' Ol g1) := pss_imp h fun E σ H ⟨δ, F, I, w⟩ => by
  obtain ⟨F', I'⟩ := I.drop i
  exact ⟨δ, F', I', w⟩
theorem tE.inS {σ : L2.St} {H : Hp} {δ : DEnv} {F : Addr → Prop} {P : PR} {k : D → Out} {E : Ends} {Q : VK} (I : SInv M H0 F0 O F H σ δ) (w : OutP M W H0 F0 O' Ol E (CL.inS δ (f δ) k))
    (h : ∀ d v H' F', f δ = .ok d → Grow F H F' H' → P F' H' v d → OutP M W H0 F0 O' Ol E (k d) → Q v H') : tE M W O P f σ H Q := by
  refine ⟨δ, F, I.e, ?_⟩
  cases ef : f δ with
  | ok d =>
    rw [ef] at w
    exact fun v H' F' g r => h d v H' F' ef g r w
  | exc n =>
    rw [ef] at w
    intro H' F' g
    obtain ⟨F'', I''⟩ := (I.grow g).dropAll
    exact w σ H' F'' I''
  | bad => rw [ef] at w; exact w.elim
theorem tT.inT {σ : L2.St} {H : Hp} {δ : DEnv} {F : Addr → Prop} {c : DEnv → R Bool} {k : Bool → Out} {E : Ends} {Q : Bool → Hp → Prop} (I : SInv M H0 F0 O F H σ δ) (w : OutP M W H0 F0 O' Ol E (CL.inT δ (c δ) k))
    (h : ∀ d H' F', c δ = .ok d → Grow F H F' H' → OutP M W H0 F0 O' Ol E (k d) → Q d H') : tT M W O c σ H Q := by
  refine ⟨δ, F, I.e, ?_⟩
  cases ef : c δ with
  | ok d =>
    rw [ef] at w
    exact fun H' F' g => h d H' F' ef g w
  | exc n =>
    rw [ef] at w
    intro H' F' g
    obtain ⟨F'', I''⟩ := (I.grow g).dropAll
    exact w σ H' F'' I''
  | bad => rw [ef] at w; exact w.elim
theorem ss_expr (h : PE X e (tD M W O f)) (hs : swapsWith e none pos.line X.env = pure false := by rfl) : PS X (.Expr e pos) (tS M W H0 F0 O O Ol fun δ => inS δ (f δ) fun _ => .nxt δ) := ps_imp (ps_expr h hs) fun E σ H ⟨δ, F, I, w⟩ =>
  tE.inS I w fun d v H' F' _ g r w' => w' σ H' F' (I.grow g)
theorem ss_ret (h : PE X e (tD M W O f)) : PS X (.Return (some e) pos) (tS M W H0 F0 O O' Ol fun δ => inS δ (f δ) fun d => .ret d) := ps_imp (ps_ret h) fun E σ H ⟨δ, F, I, w⟩ =>
  tE.inS I w fun d v H' F' _ g r w' => w' v H' F' (I.g0.trans g) r
theorem ss_retN : PS X (.Return none pos) (tS M W H0 F0 O O' Ol fun _ => .ret .non) := ps_imp ps_retN fun E σ H ⟨δ, F, I, w⟩ => w .non H F I.g0 .non
theorem ss_pass : PS X (.Pass pos) (tS M W H0 F0 O O Ol Out.nxt) := ps_imp ps_pass fun E σ H ⟨δ, F, I, w⟩ => w σ H F I
theorem ss_break : PS X (.Break pos) (tS M W H0 F0 O O' O Out.brk) := ps_imp ps_break fun E σ H ⟨δ, F, I, w⟩ => w σ H F I
theorem ss_continue : PS X (.Continue pos) (tS M W H0 F0 O O' O Out.cnt) := ps_imp ps_continue fun E σ H ⟨δ, F, I, w⟩ => w σ H F I
/-- at a break, a continue: what is owned here alone is let go -/
theorem ss_letOf {O2 : List Nat} (i : Nat) (h : PS X st (tS M W H0 F0 (O.filter (· != i)) O' Ol g1)) : PS X st (tS M W H0 F0 O O' Ol g1) := ps_imp h fun E σ H ⟨δ, F, I, w⟩ => by
  obtain ⟨F', I'⟩ := I.drop i
  exact ⟨δ, F', I', w⟩
theorem ss_set (i : Nat) {x : Str} {p' : Pos} (hN : X.N.Nodup) (h : PE X e (tD M W O f)) (hO : O' = O.filter (· != i) := by rfl) (hi : X.N[i]? = some x := by rfl) (hx : Loc X.env.scope x := by first | exact Or.inl rfl | exact Or.inr rfl) (hs : swapsWith e (some (.Name x p')) pos.line X.env = pure false := by rfl)
    (hf : X.fn x = true ∨ X.env.scope.names.lookup x = some .local := by first | exact .inl rfl | exact .inr rfl) :
    PS X (.Assign [.Name x p'] e pos) (tS M W H0 F0 O O' Ol fun δ => inS δ (f δ) fun d => .nxt (δ.set i (some d))) := ps_imp (ps_set hN hi hx h hs hf) fun E σ H ⟨δ, F, I, w⟩ =>
  tE.inS I w fun d v H' F' _ g r w' => by subst hO; exact w' _ H' F' ((I.grow g).set r)
theorem ss_if {c : Expr} {a b : List Stmt} {ft : DEnv → R Bool} (hc : PT X c (tT M W O ft)) (ha : PSs X a (tS M W H0 F0 O O' Ol g1)) (hb : PSs X b (tS M W H0 F0 O O' Ol g2)) : PS X (.If c a b pos) (tS M W H0 F0 O O' Ol fun δ => inT δ (ft δ) fun c => if c then g1 δ else g2 δ) := ps_imp (ps_if hc ha hb) fun E σ H ⟨δ, F, I, w⟩ =>
  tT.inT I w fun c H' F' _ g w' => by
    cases c with
    | true => exact ⟨δ, F', I.grow g, w'⟩
    | false => exact ⟨δ, F', I.grow g, w'⟩
end
end CL

namespace CL
open PySem PySem.Spec PyProof.Rows L2

/-! ### new lists that a slot will own -/
def tN (M : Md) (W : WX) (O : List Nat) (f : DEnv → R D) : TE := fun σ H Q => ∃ δ F, EInv M O F H σ δ ∧
  (f δ).wp (fun d => ∀ p H' F', Grow F H F' H' → H p = none → ¬ F' p → Own M F' H' p d → Q (.ref p) H') (fun n => ∀ H' F', Grow F H F' H' → W (.ref (M.xc n)) none σ H')
/-- an item of a row of values: shared, or new -/
def It1 (M : Md) (H0 : Hp) (F : Addr → Prop) (H : Hp) (fl : Bool) (v : V) (d : D) : Prop := if fl then ∃ p, v = .ref p ∧ H0 p = none ∧ ¬ F p ∧ Own M F H p d else Rep M F H v d
theorem It1.grow {M : Md} {H0 : Hp} {F F' : Addr → Prop} {H H' : Hp} {fl : Bool} {v : V} {d : D} (r : It1 M H0 F H fl v d) (g : Grow F H F' H') : It1 M H0 F' H' fl v d := by
  cases fl with
  | false => exact Rep.grow (show Rep M F H v d from r) g
  | true =>
    obtain ⟨p, e, h0, nf, o⟩ := r
    refine ⟨p, e, h0, fun z => ?_, o.grow g⟩
    rcases g.2.2.1 p z with q | q
    · exact nf q
    · obtain ⟨x, hx⟩ := o.there
      rw [hx] at q; cases q
inductive Items (M : Md) (H0 : Hp) (F : Addr → Prop) (H : Hp) : List Bool → List V → List D → Prop
  | nil : Items M H0 F H [] [] []
  | cons {fl : Bool} {fls : List Bool} {v : V} {vs : List V} {d : D} {ds : List D} : It1 M H0 F H fl v d → Items M H0 F H fls vs ds → (fl = true → ∀ i : Nat, fls[i]? = some true → vs[i]? ≠ some v) → Items M H0 F H (fl :: fls) (v :: vs) (d :: ds)
def tF (M : Md) (W : WX) (O : List Nat) (fls : List Bool) (f : DEnv → R (List D)) : TA := fun σ H Q => ∃ δ F, EInv M O F H σ δ ∧
  (f δ).wp (fun ds => ∀ vs H' F', Grow F H F' H' → Items M H F' H' fls vs ds → Q vs H') (fun n => ∀ H' F', Grow F H F' H' → W (.ref (M.xc n)) none σ H')
section
variable {X : Cx} {M : Md} {W : WX} {H0 : Hp} {F0 : Addr → Prop} {O O1 O' Ol : List Nat} {g1 g2 : DEnv → Out} {f g : DEnv → R D} {fs : DEnv → R (List D)} {e : Expr} {es : List Expr} {st : Stmt} {sts : List Stmt} {pos : Pos}
theorem sn_lst (h : PA X es (tA M W O (Rep M) fs)) : PE X (.List es pos) (tN M W O (lstV fs)) := pe_imp (pe_lst h) fun σ H Q ⟨δ, F, I, w⟩ => by
  refine ⟨δ, F, I, R.wp_mono (R.wp_bind w) (fun ds _ q vs H1 F1 g1 rs => ?_) fun _ q => q⟩
  by_cases hl : ds.length ≤ lim
  · rw [if_pos hl] at q
    refine ⟨by rw [rs.length, lim_eq]; exact hl, fun p hp => ?_⟩
    have g2 := Grow.newT (o := .lst vs) g1.dom hp
    have hH : H p = none := by
      cases z : H p with
      | none => rfl
      | some o => rw [g1.1 p o z] at hp; cases hp
    exact q p _ _ (g1.trans g2) hH (fun z => by obtain ⟨o, e⟩ := g1.dom p z; rw [hp] at e; cases e) ⟨vs, upd_same, rs.rep.grow g2⟩
  · rw [if_neg hl] at q; exact q.elim
/-- [x] * n -/
def D.rep : D → D → R D
  | .lst a, .int k => if wid 999999 k = true ∧ a.length * k.toNat ≤ lim then .ok (.lst (List.replicate k.toNat a).flatten) else .bad
  | _, _ => .bad
theorem none_of_grow {F F' : Addr → Prop} {H H' : Hp} (g : Grow F H F' H') {z : Addr} (hz : H' z = none) : H z = none := by
  cases q : H z with
  | none => rfl
  | some o => rw [g.1 z o q] at hz; cases hz
theorem not_dom {F : Addr → Prop} {H : Hp} (d : Dom F H) {z : Addr} (hz : H z = none) : ¬ F z := fun q => by obtain ⟨o, e⟩ := d z q; rw [hz] at e; cases e
theorem sn_rep {a b : Expr} (ha : PE X a (tB M W O f)) (hb : PE X b (tB M W O g)) : PE X (.BinOp a .Mult b pos) (tN M W O (bin D.rep f g)) := pe_imp (pe_op op_rep ha hb) fun σ H Q ⟨δ, F, I, w⟩ => by
  refine tE.one I w fun x v H1 F1 ea g1 ra w1 => ?_
  refine ⟨δ, F1, I.grow g1, R.wp_mono (R.wp_bind w1) (fun y eb w2 u H2 F2 g2 rb => ?_) fun n q H2 F2 g2 => q H2 F2 (g1.trans g2)⟩
  have ra2 := ra.grow g2
  have gg := g1.trans g2
  unfold D.rep at w2
  cases x with
  | lst a =>
    cases y with
    | int k =>
      obtain ⟨p, vs, rfl, h1, r1⟩ := ra2
      cases (show Rep M F2 H2 u _ from rb)
      by_cases h : wid 999999 k = true ∧ a.length * k.toNat ≤ lim
      · simp only [if_pos h] at w2
        have hw := wid_iff.1 h.1
        refine ⟨p, _, vs, rfl, rfl, h1, by omega, by omega, by rw [r1.length, lim_eq]; exact h.2, fun z hz => ?_⟩
        exact w2 z _ _ (gg.trans (Grow.newT gg.dom hz)) (none_of_grow gg hz) (not_dom gg.dom hz) ⟨_, upd_same, (r1.rep _).grow (Grow.newT gg.dom hz)⟩
      · simp only [if_neg h] at w2; exact w2.elim
    | _ => exact w2.elim
  | _ => exact w2.elim
/-! rows of values with new lists among them -/
theorem Items.low {Ha Hb : Hp} {F : Addr → Prop} {H : Hp} (h : ∀ p, Hb p = none → Ha p = none) : ∀ {fls : List Bool} {vs : List V} {ds : List D}, Items M Hb F H fls vs ds → Items M Ha F H fls vs ds
  | _, _, _, .nil => .nil
  | fl :: _, _, _, .cons a b c => .cons (by
      cases fl with
      | false => exact a
      | true => obtain ⟨p, e, h0, nf, o⟩ := a; exact ⟨p, e, h p h0, nf, o⟩) (Items.low h b) c
theorem Items.fresh {Hb : Hp} {F : Addr → Prop} {H : Hp} {p : Addr} {x : HO} (hp : Hb p = some x) : ∀ {fls : List Bool} {vs : List V} {ds : List D}, Items M Hb F H fls vs ds → ∀ i : Nat, fls[i]? = some true → vs[i]? ≠ some (.ref p)
  | _, _, _, .nil, i, e => by simp at e
  | _, _, _, .cons a b c, 0, e => by
    simp at e
    subst e
    obtain ⟨q, e, h0, _⟩ := a
    subst e
    intro z
    simp at z
    subst z
    rw [hp] at h0; cases h0
  | _, _, _, .cons a b c, i + 1, e => by
    have := Items.fresh hp b i (by simpa using e)
    simpa using this
theorem sf_nil : PA X [] (tF M W O [] nilA) := pa_imp pa_nil fun σ H Q ⟨δ, F, I, w⟩ => w [] H F (Grow.refl I.dom) .nil
theorem sf_sh {fls : List Bool} (ha : PE X e (tD M W O f)) (hr : PA X es (tF M W O fls fs)) (hs : starEach (e :: es) X.env = (false, eval e X.env) :: starEach es X.env := by rfl) : PA X (e :: es) (tF M W O (false :: fls) (consA f fs)) := pa_imp (pa_cons ha hr hs) fun σ H Q ⟨δ, F, I, w⟩ => by
  refine tE.one I w fun d v H1 F1 ed g1 r w1 => ?_
  refine ⟨δ, F1, I.grow g1, R.wp_mono (R.wp_bind w1) (fun ds eds w2 vs H2 F2 g2 rs => ?_) fun n q H2 F2 g2 => q H2 F2 (g1.trans g2)⟩
  exact w2 (v :: vs) H2 F2 (g1.trans g2) (.cons (r.grow g2) (rs.low fun p h => none_of_grow g1 h) fun z => Bool.noConfusion z)
theorem sf_new {fls : List Bool} (ha : PE X e (tN M W O f)) (hr : PA X es (tF M W O fls fs)) (hs : starEach (e :: es) X.env = (false, eval e X.env) :: starEach es X.env := by rfl) : PA X (e :: es) (tF M W O (true :: fls) (consA f fs)) := pa_imp (pa_cons ha hr hs) fun σ H Q ⟨δ, F, I, w⟩ => by
  refine ⟨δ, F, I, R.wp_mono (R.wp_bind w) (fun d ed w1 p H1 F1 g1 h0 nf o => ?_) fun _ q => q⟩
  refine ⟨δ, F1, I.grow g1, R.wp_mono (R.wp_bind w1) (fun ds eds w2 vs H2 F2 g2 rs => ?_) fun n q H2 F2 g2 => q H2 F2 (g1.trans g2)⟩
  have it1 : It1 M H F2 H2 true (.ref p) d := It1.grow (H0 := H) (fl := true) ⟨p, rfl, h0, nf, o⟩ g2
  obtain ⟨x, hx⟩ := o.there
  exact w2 (.ref p :: vs) H2 F2 (g1.trans g2) (.cons it1 (rs.low fun p h => none_of_grow g1 h) fun _ => rs.fresh hx)

/-! ### storing -/
/-- one value stored in slot i -/
theorem SInv.item {F : Addr → Prop} {H Hb : Hp} {σ : L2.St} {δ : DEnv} (I : SInv M H0 F0 O F H σ δ) (i : Nat) {fl : Bool} {v : V} {d : D} (r : It1 M Hb F H fl v d) (hb : ∀ p, Hb p = none → H0 p = none)
    (hn : fl = true → ∀ j e, j ∈ O → δ[j]? = some (some e) → j ≠ i → σ[j]? ≠ some (some v)) : SInv M H0 F0 (if fl then i :: O else O.filter (· != i)) F H (σ.set i (some v)) (δ.set i (some d)) := by
  cases fl with
  | false => exact I.set (show Rep M F H v d from r)
  | true =>
    obtain ⟨p, rfl, h0, nf, o⟩ := r
    exact I.setOwn nf o (hb p h0) fun j e hj q ne => hn rfl j e hj q ne
theorem SInv.old {F : Addr → Prop} {H : Hp} {σ : L2.St} {δ : DEnv} (I : SInv M H0 F0 O F H σ δ) {p : Addr} (hp : H p = none) : ∀ j e, j ∈ O → δ[j]? = some (some e) → σ[j]? ≠ some (some (.ref p)) := fun j e hj q z => by
  obtain ⟨p', e1, _, o⟩ := I.e.own j e hj q
  rw [z] at e1; cases e1
  obtain ⟨x, hx⟩ := o.there
  rw [hp] at hx; cases hx
theorem ss_own (i : Nat) {x : Str} {p' : Pos} (hN : X.N.Nodup) (h : PE X e (tN M W O f)) (hO : O' = i :: O := by rfl) (hi : X.N[i]? = some x := by rfl) (hx : Loc X.env.scope x := by first | exact Or.inl rfl | exact Or.inr rfl) (hs : swapsWith e (some (.Name x p')) pos.line X.env = pure false := by rfl)
    (hf : X.fn x = true ∨ X.env.scope.names.lookup x = some .local := by first | exact .inl rfl | exact .inr rfl) :
    PS X (.Assign [.Name x p'] e pos) (tS M W H0 F0 O O' Ol fun δ => inS δ (f δ) fun d => .nxt (δ.set i (some d))) := ps_imp (ps_set hN hi hx h hs hf) fun E σ H ⟨δ, F, I, w⟩ => by
  subst hO
  refine ⟨δ, F, I.e, ?_⟩
  simp only at w
  cases ef : f δ with
  | ok d =>
    rw [ef] at w
    intro p H' F' g h0 nf o
    exact w _ H' F' ((I.grow g).setOwn nf o (by
      cases z : H0 p with
      | none => rfl
      | some o => rw [I.sub p o z] at h0; cases h0) fun j e hj q _ => I.old h0 j e hj q)
  | exc n =>
    rw [ef] at w
    intro H' F' g
    obtain ⟨F'', I''⟩ := (I.grow g).dropAll
    exact w σ H' F'' I''
  | bad => rw [ef] at w; exact w.elim
/-- a row's result in a statement -/
def inA (δ : DEnv) (x : R (List D)) (k : List D → Out) : Out := match x with
  | .ok d => k d
  | .exc n => .exc n δ
  | .bad => .bad
theorem tF.inA {σ : L2.St} {H : Hp} {δ : DEnv} {F : Addr → Prop} {fls : List Bool} {k : List D → Out} {E : Ends} {Q : List V → Hp → Prop} (I : SInv M H0 F0 O F H σ δ) (w : OutP M W H0 F0 O' Ol E (CL.inA δ (fs δ) k))
    (h : ∀ ds vs H' F', fs δ = .ok ds → Grow F H F' H' → Items M H F' H' fls vs ds → OutP M W H0 F0 O' Ol E (k ds) → Q vs H') : tF M W O fls fs σ H Q := by
  refine ⟨δ, F, I.e, ?_⟩
  cases ef : fs δ with
  | ok d =>
    rw [ef] at w
    exact fun v H' F' g r => h d v H' F' ef g r w
  | exc n =>
    rw [ef] at w
    intro H' F' g
    obtain ⟨F'', I''⟩ := (I.grow g).dropAll
    exact w σ H' F'' I''
  | bad => rw [ef] at w; exact w.elim
def oset (fl : Bool) (i : Nat) (O : List Nat) : List Nat := if fl then i :: O else O.filter (· != i)
def set2 (i j : Nat) (δ : DEnv) : List D → Out
  | [a, b] => .nxt ((δ.set i (some a)).set j (some b))
  | _ => .bad
def set3 (i j k : Nat) (δ : DEnv) : List D → Out
  | [a, b, c] => .nxt (((δ.set i (some a)).set j (some b)).set k (some c))
  | _ => .bad
/-- two slots stored, one after the other -/
theorem SInv.two {F F1 : Addr → Prop} {H H1 : Hp} {σ : L2.St} {δ : DEnv} (I : SInv M H0 F0 O F H σ δ) (g : Grow F H F1 H1) {i j : Nat} {fa fb : Bool} {vs : List V} {a b : D} (hij : i ≠ j) (r : Items M H F1 H1 [fa, fb] vs [a, b]) :
    ∃ x y, vs = [x, y] ∧ SInv M H0 F0 (oset fb j (oset fa i O)) F1 H1 ((σ.set i (some x)).set j (some y)) ((δ.set i (some a)).set j (some b)) := by
  cases r with
  | @cons _ _ x _ _ _ ra rest ca =>
    cases rest with
    | @cons _ _ y _ _ _ rb rest cb =>
      cases rest
      refine ⟨x, y, rfl, ?_⟩
      have hb : ∀ p, H p = none → H0 p = none := fun p h0 => by
        cases z : H0 p with
        | none => rfl
        | some o => rw [I.sub p o z] at h0; cases h0
      have I1 := (I.grow g).item i ra hb fun e k d hk q _ => by
        subst e
        obtain ⟨p, rfl, h0, _⟩ := ra
        exact I.old h0 k d hk q
      refine I1.item j rb hb fun e k d hk q ne => ?_
      subst e
      obtain ⟨p, rfl, h0, _⟩ := rb
      by_cases hki : k = i
      · subst hki
        intro z
        cases fa with
        | false => simp at hk
        | true =>
          have hl : k < σ.length := by
            have := (List.getElem?_eq_some_iff.mp z).1
            simpa using this
          rw [List.getElem?_set_self hl] at z
          cases z
          exact ca rfl 0 rfl rfl
      · rw [List.getElem?_set_ne (Ne.symm hki)] at q ⊢
        refine I.old h0 k d ?_ q
        cases fa with
        | false => exact (List.mem_filter.mp hk).1
        | true => exact (List.mem_cons.mp hk).resolve_left hki
/-- a, b = x, y; both plain locals -/
theorem ss_par2 (i j : Nat) {x y : Str} {a b : Expr} {fa fb : Bool} {px py pt : Pos} {kt k2 pt2} (hc : X.calm = true) (hN : X.N.Nodup) (ha : PA X [a, b] (tF M W O [fa, fb] fs)) (hij : i ≠ j := by decide) (hO : O' = oset fb j (oset fa i O) := by rfl)
    (hi : X.N[i]? = some x := by rfl) (hj : X.N[j]? = some y := by rfl) (hx : X.env.scope.names.lookup x = some .local := by rfl) (hy : X.env.scope.names.lookup y = some .local := by rfl)
    (hw : swappedStores [.Tuple [.Name x px, .Name y py] kt pt] (.Tuple [a, b] k2 pt2) X.env = pure (some [x, y]) := by rfl)
    (hs : swapsWithSole [.Tuple [.Name x px, .Name y py] kt pt] (.Tuple [a, b] k2 pt2) pos.line X.env = pure false := by rfl) :
    PS X (.Assign [.Tuple [.Name x px, .Name y py] kt pt] (.Tuple [a, b] k2 pt2) pos) (tS M W H0 F0 O O' Ol fun δ => inA δ (fs δ) (set2 i j δ)) := ps_imp (ps_par hc hN hi hj hij hx hy ha hw hs) fun E σ H ⟨δ, F, I, w⟩ =>
  tF.inA I w fun ds vs H' F' _ g r w' => by
    subst hO
    unfold set2 at w'
    split at w'
    · obtain ⟨x, y, rfl, I2⟩ := I.two g hij r
      exact ⟨x, y, rfl, w' _ H' F' I2⟩
    · exact w'.elim
/-- .. by way of a pair -/
theorem ss_tup2 (i j : Nat) {x y : Str} {a b : Expr} {fa fb : Bool} {px py pt : Pos} {kt k2 pt2} (hc : X.calm = true) (hN : X.N.Nodup) (ha : PA X [a, b] (tF M W O [fa, fb] fs)) (hij : i ≠ j := by decide) (hO : O' = oset fb j (oset fa i O) := by rfl)
    (hi : X.N[i]? = some x := by rfl) (hj : X.N[j]? = some y := by rfl)
    (hx : Loc X.env.scope x := by first | exact Or.inl rfl | exact Or.inr rfl) (hf : X.fn x = true ∨ X.env.scope.names.lookup x = some .local := by first | exact .inl rfl | exact .inr rfl)
    (hy : Loc X.env.scope y := by first | exact Or.inl rfl | exact Or.inr rfl) (hf' : X.fn y = true ∨ X.env.scope.names.lookup y = some .local := by first | exact .inl rfl | exact .inr rfl)
    (hs : swapsWithSole [.Tuple [.Name x px, .Name y py] kt pt] (.Tuple [a, b] k2 pt2) pos.line X.env = pure false := by rfl) (hw : swappedStores [.Tuple [.Name x px, .Name y py] kt pt] (.Tuple [a, b] k2 pt2) X.env = pure none := by rfl) :
    PS X (.Assign [.Tuple [.Name x px, .Name y py] kt pt] (.Tuple [a, b] k2 pt2) pos) (tS M W H0 F0 O O' Ol fun δ => inA δ (fs δ) (set2 i j δ)) :=
  ps_imp (ps_asg (pe_tup ha) (pg_tup hc (pgs_cons (pg_name (i := i) hN hi hx hf) (pgs_cons (pg_name (i := j) hN hj hy hf') pgs_nil))) hs hw) fun E σ H ⟨δ, F, I, w⟩ =>
  tF.inA I w fun ds vs H' F' _ g r w' => by
    subst hO
    unfold set2 at w'
    split at w'
    · obtain ⟨x, y, rfl, I2⟩ := I.two g hij r
      refine ⟨by show 2 ≤ sizeLine; rw [lim_eq]; decide, fun p hp => ⟨p, _, rfl, SqT.of upd_same, rfl, _, _, rfl, _, _, rfl, rfl, ?_⟩⟩
      exact w' _ _ F' (I2.grow (Grow.newT g.dom hp))
    · exact w'.elim
/-- a, b = e -/
theorem ss_unp2 (i j : Nat) {x y : Str} {px py pt : Pos} {kt : Nat} (hc : X.calm = true) (hN : X.N.Nodup) (h : PE X e (tD M W O f)) (hij : i ≠ j := by decide) (hO : O' = oset false j (oset false i O) := by rfl)
    (hi : X.N[i]? = some x := by rfl) (hj : X.N[j]? = some y := by rfl)
    (hx : Loc X.env.scope x := by first | exact Or.inl rfl | exact Or.inr rfl) (hf : X.fn x = true ∨ X.env.scope.names.lookup x = some .local := by first | exact .inl rfl | exact .inr rfl)
    (hy : Loc X.env.scope y := by first | exact Or.inl rfl | exact Or.inr rfl) (hf' : X.fn y = true ∨ X.env.scope.names.lookup y = some .local := by first | exact .inl rfl | exact .inr rfl)
    (hs : swapsWithSole [.Tuple [.Name x px, .Name y py] kt pt] e pos.line X.env = pure false := by rfl) (hw : swappedStores [.Tuple [.Name x px, .Name y py] kt pt] e X.env = pure none := by rfl) :
    PS X (.Assign [.Tuple [.Name x px, .Name y py] kt pt] e pos) (tS M W H0 F0 O O' Ol fun δ => inS δ (f δ) fun d => match d with | .tup l => set2 i j δ l | _ => .bad) :=
  ps_imp (ps_asg h (pg_tup hc (pgs_cons (pg_name (i := i) hN hi hx hf) (pgs_cons (pg_name (i := j) hN hj hy hf') pgs_nil))) hs hw) fun E σ H ⟨δ, F, I, w⟩ =>
  tE.inS I w fun d v H' F' _ g r w' => by
    subst hO
    cases d with
    | tup l =>
      cases r with
      | tup h1 h2 =>
        simp only at w'
        unfold set2 at w'
        split at w'
        · cases h2 with
          | cons ra h3 => cases h3 with
            | cons rb h4 =>
              cases h4
              refine ⟨_, _, rfl, SqT.of h1, rfl, _, _, rfl, _, _, rfl, rfl, ?_⟩
              exact w' _ H' F' (((I.grow g).set ra).set rb)
        · exact w'.elim
    | _ => exact w'.elim
end
end CL

namespace CL
open PySem PySem.Spec PyProof.Rows L2

/-! ### defs -/
def spD (M : Md) (m : List D → R D) : Sp := fun vs H Q E => ∃ F ds, Dom F H ∧ RepAll M F H vs ds ∧
  (m ds).wp (fun d => ∀ v H' F', Grow F H F' H' → Rep M F' H' v d → Q v H') (fun n => ∀ H' F', Grow F H F' H' → E (.ref (M.xc n)) none H')
/-- the def that the module calls x computes m -/
structure FnD (P : Program) (w : World) (M : Md) (base : Heap) (k : Nat) (x : Str) (m : List D → R D) : Prop where
  ex : ∃ (f : Addr) (fd : FuncData) (ps : List Str), M.mg x = some (.ref f) ∧ PySem.W.keepIn M.K (.ref f) = true ∧ Binds M.K fd ps [] ∧ FnOk P w M.K M.mg base (L2.CX P w) k f fd ps (spD M m)
theorem FnD.mono {P : Program} {w : World} {M : Md} {base : Heap} {j k : Nat} {x : Str} {m : List D → R D} (F : FnD P w M base j x m) (h : j ≤ k) : FnD P w M base k x m := by
  obtain ⟨f, fd, ps, h1, h2, h3, h4⟩ := F.ex
  exact ⟨f, fd, ps, h1, h2, h3, h4.mono h⟩
theorem FnD.to {P : Program} {w : World} {M : Md} {base : Heap} {k : Nat} {x : Str} {m m' : List D → R D} (F : FnD P w M base k x m) (h : ∀ ds, m' ds = .bad ∨ m' ds = m ds) : FnD P w M base k x m' := by
  obtain ⟨f, fd, ps, h1, h2, h3, h4⟩ := F.ex
  refine ⟨f, fd, ps, h1, h2, h3, h4.imp fun vs H Q E ⟨F, ds, a, b, c⟩ => ⟨F, ds, a, b, ?_⟩⟩
  rcases h ds with e | e
  · rw [e] at c; exact c.elim
  · rw [← e]; exact c
structure On (X : Cx) (M : Md) : Prop where
  K : X.K = M.K
  mg : X.mg = M.mg
section
variable {X : Cx} {M : Md} {W : WX} {H0 : Hp} {F0 : Addr → Prop} {O O1 O' Ol : List Nat} {g1 g2 : DEnv → Out} {f g : DEnv → R D} {fs : DEnv → R (List D)} {e : Expr} {es : List Expr} {st : Stmt} {sts : List Stmt} {pos : Pos}
def callV (m : List D → R D) (fs : DEnv → R (List D)) : DEnv → R D := fun δ => (fs δ).bind m
theorem sd_call {k : Nat} {x : Str} {m : List D → R D} {p : Pos} (F : FnD X.prog X.w M X.base k x m) (hM : On X M) (hr : Room k X.A) (tk : Takes X W) (ha : PA X (e :: es) (tA M W O (Rep M) fs)) (hg : Gl X x := by rfl) (hdb : (x == ("__debug__" : Str)) = false := by decide)
    (he : starEach (e :: es) X.env = (false, eval e X.env) :: starEach es X.env := by rfl) (hpl : (backTo pos (starEach es X.env)).any (·.1) = false := by rfl) :
    PE X (.Call (.Name x p) (e :: es) [] pos) (tD M W O (callV m fs)) := by
  obtain ⟨fa, fd, ps, h1, h2, h3, h4⟩ := F.ex
  rw [← hM.K] at h2 h3
  rw [← hM.mg] at h1
  have h5 : FnOk X.prog X.w X.K X.mg X.base (L2.CX X.prog X.w) k fa fd ps (spD M m) := by rw [hM.K, hM.mg]; exact h4
  refine pe_imp (pe_callS h5 hr hg h1 h2 h3 (fun σ => passAt tk σ) ha hdb he hpl) fun σ H Q ⟨δ, F, I, w⟩ => ?_
  refine ⟨δ, F, I, R.wp_mono (R.wp_bind w) (fun ds eds w1 vs H1 F1 g1 rs => ?_) fun _ q => q⟩
  exact ⟨F1, ds, g1.dom, rs.rep, R.wp_mono w1 (fun d _ q v H' F' g r => q v H' F' (g1.trans g) r) fun n q H' F' g => q H' F' (g1.trans g)⟩
theorem sd_call0 {k : Nat} {x : Str} {m : List D → R D} {p : Pos} (F : FnD X.prog X.w M X.base k x m) (hM : On X M) (hr : Room k X.A) (hE : m [] = .bad ∨ ∃ d, m [] = .ok d) (hg : Gl X x := by rfl) (hdb : (x == ("__debug__" : Str)) = false := by decide) :
    PE X (.Call (.Name x p) [] [] pos) (tD M W O (callV m nilA)) := by
  obtain ⟨fa, fd, ps, h1, h2, h3, h4⟩ := F.ex
  rw [← hM.K] at h2 h3
  rw [← hM.mg] at h1
  have h5 : FnOk X.prog X.w X.K X.mg X.base (L2.CX X.prog X.w) k fa fd ps (spD M m) := by rw [hM.K, hM.mg]; exact h4
  refine pe_imp (pe_call0 h5 hr hg h1 h2 h3 .nil passL hdb) fun σ H Q ⟨δ, F, I, w⟩ => ?_
  refine ⟨F, [], I.dom, .nil, ?_⟩
  have w : (m []).wp _ _ := w
  rcases hE with e | ⟨d, e⟩
  · rw [e] at w; exact w.elim
  · rw [e] at w ⊢; exact w
def startD (n : Nat) (ds : List D) : DEnv := ds.map some ++ List.replicate (n - ds.length) none
def outD : Out → R D
  | .ret d => .ok d
  | .nxt _ => .ok .non
  | .exc n _ => .exc n
  | _ => .bad
/-- a def of k parameters and n names, by its body -/
def runF (k n : Nat) (g : DEnv → Out) : List D → R D := fun ds => if ds.length = k then outD (g (startD n ds)) else .bad
theorem einv_start {F : Addr → Prop} {H : Hp} {N : List Str} {vs : List V} {ds : List D} (dm : Dom F H) (r : RepAll M F H vs ds) : EInv M [] F H (L2.start N vs) (startD N.length ds) := by
  refine ⟨by unfold L2.start startD; simp [r.length], dm, fun i d _ e => ?_, fun i d h => (nomatch h), fun i j p d e h => (nomatch h)⟩
  unfold startD at e
  unfold L2.start
  by_cases hi : i < ds.length
  · rw [List.getElem?_append_left (by simpa using hi)] at e
    rw [List.getElem?_append_left (by simpa [r.length] using hi)]
    rw [List.getElem?_map] at e ⊢
    have e2 : ds[i]? = some d := by
      cases q : ds[i]? with
      | none => rw [q] at e; cases e
      | some d' => rw [q] at e; cases e; rfl
    obtain ⟨v, h1, h2⟩ := r.get e2
    exact ⟨v, by rw [h1]; rfl, h2⟩
  · rw [List.getElem?_append_right (by simpa using hi)] at e
    rw [List.getElem?_replicate] at e
    split at e <;> cases e
theorem fn_mk {P : Program} {w : World} {base : Heap} {x qual : Str} {st : Stmt} {fa : Addr} {fd : FuncData} {N ps : List Str} {k : Nat} {g : DEnv → Out} {O' : List Nat} (hmg : M.mg x = some (.ref fa)) (F : Fun M.K x qual st fa fd) (S : FnScope N ps (defScope st))
    (hb : Binds M.K fd ps [])
    (body : ∀ (cdv : Value) (A : Around) (outer : List Env) (s : Shared) (H : Hp) (E : XK), Room k (A.deeper (envOfC qual (defScope st) s.heap.objs.size fa cdv)) → ∀ (F0 : Addr → Prop),
      PSs (cxOf (L2.CX P w) P w M.K M.mg base N qual (defScope st) fa cdv A outer s H E) (defBody st) (tS M (fun cls d _ H => E cls d H) H F0 [] O' [] g)) :
    FnD P w M base (k + 1) x (runF ps.length N.length g) := by
  refine ⟨fa, fd, ps, hmg, F.kp, hb, F.okX S (fun vs H Q E ⟨F, ds, _, r, w⟩ => ?_) fun cdv A outer s H vs Q E hr ⟨F1, ds, dm, r, w⟩ => ?_⟩
  · unfold runF at w
    split at w
    · rename_i h; rw [r.length]; exact h
    · exact w.elim
  · unfold runF at w
    split at w
    · refine ⟨_, body cdv A outer s H E hr F1, startD N.length ds, F1, ⟨einv_start dm r, fun _ _ e => e, fun _ e => e, fun _ e => .inl e, fun i d p h => (nomatch h)⟩, ?_⟩
      cases eo : g (startD N.length ds) with
      | nxt δ' => rw [eo] at w; exact fun σ' H' F' I => w .non H' F' I.g0 .non
      | ret d => rw [eo] at w; exact w
      | brk δ' => rw [eo] at w; exact w.elim
      | cnt δ' => rw [eo] at w; exact w.elim
      | exc n δ' => rw [eo] at w; exact fun σ' H' F' I => w H' F' I.g0
      | bad => rw [eo] at w; exact w.elim
    · exact w.elim

/-! ### raise X('..') -/
theorem ss_raise (n : Nat) {x m : Str} {j : Nat} {p p2 pos' : Pos} {C : Addr} {bmB : List Value} {B newId initId : String} (hc : X.calm = true) (tk : Takes X W) (hn : M.xc n = C) (Fb : ExcBaseFacts B newId initId bmB) (q : PySem.W.excIn X.K C bmB newId = true) (gC : X.mg x = some (.ref C)) (kC : PySem.W.keepIn X.K (.ref C) = true) (r : Raises X (.ref C)) (hg : Gl X x := by rfl) (hdb : (x == ("__debug__" : Str)) = false := by decide) :
    PS X (.Raise (some (.Call (.Name x p) [.Constant (.str m) j p2] [] pos)) none pos') (tS M W H0 F0 O O' Ol (Out.exc n)) := ps_imp (ps_raise hc tk (pmk_own Fb q gC kC r hg hdb)) fun E σ H ⟨δ, F, I, w⟩ => by
  obtain ⟨F', I'⟩ := I.dropAll
  have := w σ H F' I'
  rw [hn] at this
  exact this

/-! ### lists that a slot owns, changed -/
/-- xs.append(e) -/
def appS (i : Nat) (f : DEnv → R D) : DEnv → Out := fun δ => match δ[i]? with
  | some (some (.lst l)) => inS δ (f δ) fun d => if l.length < lim then .nxt (δ.set i (some (.lst (l ++ [d])))) else .bad
  | _ => .bad
theorem EInv.ownL {F : Addr → Prop} {H : Hp} {σ : L2.St} {δ : DEnv} (I : EInv M O F H σ δ) {i : Nat} {l : List D} (hO : i ∈ O) (e : δ[i]? = some (some (.lst l))) : ∃ p vs, σ[i]? = some (some (.ref p)) ∧ H p = some (.lst vs) ∧ RepAll M F H vs l := by
  obtain ⟨p, e1, _, vs, h1, h2⟩ := I.own i _ hO e
  exact ⟨p, vs, e1, h1, h2⟩
theorem ss_append (i : Nat) {x : Str} {p1 ap cp : Pos} (h : PE X e (tD M W O f)) (hO : O.contains i = true := by rfl) (hN : X.N[i]? = some x := by rfl) (hv : Vis X.env.scope x := by first | exact Or.inl rfl | exact Or.inr (Or.inl rfl) | exact Or.inr (Or.inr rfl)) (hd : (x == ("__debug__" : Str)) = false := by decide) (hcd : (x == ("__classdict__" : Str)) = false := by decide)
    (hbase : attributeBase (.Name x p1) "append" X.env (eval (.Name x p1) X.env) = eval (.Name x p1) X.env := by rfl)
    (hfew : ((backTo cp (starEach [e] X.env)).all (fun x => !x.1) && (backToKw cp (keywordEach [] X.env)).all (fun x => x.1.isSome) && decide ([e].length + ([] : List Keyword).length + (if ([] : List Keyword).isEmpty then 0 else 1) < 30)) = true := by rfl)
    (hline : (ap.endLine == cp.line) = true := by rfl) (hs : starEach [e] X.env = (false, eval e X.env) :: starEach [] X.env := by rfl) (hpl : (backTo cp (starEach [] X.env)).any (·.1) = false := by rfl) :
    PS X (.Expr (.Call (.Attribute (.Name x p1) "append" ap) [e] [] cp) pos) (tS M W H0 F0 O O Ol (appS i f)) := ps_imp (ps_expr (pe_bm PySem.F.plainAttrs_list PySem.F.slot_list_append PySem.F.type_list_append mt_append (pe_var (i := i) hN hv hd hcd) (pa_cons h pa_nil hs) hbase hfew hline hs hpl)) fun E σ H ⟨δ, F, I, w⟩ => by
  have hO : i ∈ O := by simpa using hO
  unfold appS at w
  split at w
  · rename_i l e1
    obtain ⟨p, vs, e2, h1, r1⟩ := I.e.ownL hO e1
    refine ⟨_, e2, .inl ⟨rfl, _, SqL.of h1⟩, ?_⟩
    refine tE.inS I w fun d v H' F' _ g r w' => ?_
    split at w'
    · rename_i hl
      have h1' := g.1 p _ h1
      have r1' := r1.grow g
      refine ⟨p, vs, v, rfl, rfl, h1', by rw [r1'.length, lim_eq]; exact hl, ?_⟩
      exact w' _ _ F' ((I.grow g).mut hO e1 e2 (r1'.append (.cons r .nil)))
    · exact w'.elim
  · exact w.elim
/-- xs[i] = e -/
def itemS (i : Nat) (f g : DEnv → R D) : DEnv → Out := fun δ => match δ[i]? with
  | some (some (.lst l)) => inS δ (f δ) fun d => inS δ (g δ) fun k => (match k with
    | .int z => (match ixN l.length z with | some j => .nxt (δ.set i (some (.lst (l.set j d)))) | none => .bad)
    | _ => .bad)
  | _ => .bad
theorem ss_item (i : Nat) {x : Str} {ix : Expr} {p1 p2 : Pos} (h : PE X e (tD M W O f)) (hix : PE X ix (tB M W O g)) (hO : O.contains i = true := by rfl) (hN : X.N[i]? = some x := by rfl) (hv : Vis X.env.scope x := by first | exact Or.inl rfl | exact Or.inr (Or.inl rfl) | exact Or.inr (Or.inr rfl)) (hd : (x == ("__debug__" : Str)) = false := by decide) (hcd : (x == ("__classdict__" : Str)) = false := by decide)
    (ha : ∀ v, assign (.Subscript (.Name x p1) ix p2) X.env v = (do
      let ov ← holding [v] (eval (.Name x p1) X.env)
      let iv ← holding [v, ov] (eval ix X.env)
      standAt p2
      holding [v, ov, iv] (setItem ov iv v)
      release [v, ov, iv] []) := by intro _; rfl)
    (hs : swapsWithSole [.Subscript (.Name x p1) ix p2] e pos.line X.env = pure false := by rfl) (hw : swappedStores [.Subscript (.Name x p1) ix p2] e X.env = pure none := by rfl) (h1 : (assignEach [.Subscript (.Name x p1) ix p2] X.env).map (·.2) = [assign (.Subscript (.Name x p1) ix p2) X.env] := by rfl) :
    PS X (.Assign [.Subscript (.Name x p1) ix p2] e pos) (tS M W H0 F0 O O Ol (itemS i f g)) := ps_imp (ps_asg h (pg_sub (pe_var (i := i) hN hv hd hcd) hix set_list ha) hs hw h1) fun E σ H ⟨δ, F, I, w⟩ => by
  have hO : i ∈ O := by simpa using hO
  unfold itemS at w
  split at w
  · rename_i l e1
    refine tE.inS I w fun d v H' F' _ g r w' => ?_
    have I1 := I.grow g
    obtain ⟨p, vs, e2, h1, r1⟩ := I1.e.ownL hO e1
    refine ⟨_, e2, ?_⟩
    refine tE.inS I1 w' fun k kv H2 F2 _ g2 rk w2 => ?_
    cases k with
    | int z =>
      cases (show Rep M F2 H2 kv _ from rk)
      simp only at w2
      split at w2
      · rename_i j hj
        have r1' := r1.grow g2
        refine ⟨p, vs, z, j, rfl, rfl, g2.1 p _ h1, by rw [r1'.length]; exact hj, ?_⟩
        exact w2 _ _ F2 ((I1.grow g2).mut hO e1 e2 (r1'.set (r.grow g2) j))
      · exact w2.elim
    | _ => exact w2.elim
  · exact w.elim

/-! ### for -/
/-- the turns: each item bound, then the body -/
def forL (gi : D → DEnv → R DEnv) (gb : DEnv → Out) : List D → DEnv → Out
  | [], δ => .nxt δ
  | d :: ds, δ => match gi d δ with
    | .ok δ1 => (match gb δ1 with
      | .nxt δ2 => forL gi gb ds δ2
      | .cnt δ2 => forL gi gb ds δ2
      | .brk δ2 => .nxt δ2
      | o => o)
    | _ => .bad
def forS (fi : DEnv → R (List D)) (gi : D → DEnv → R DEnv) (gb : DEnv → Out) : DEnv → Out := fun δ => inA δ (fi δ) fun ds => forL gi gb ds δ
/-- a narrower look at the heap: the loop's own -/
structure Nest (H0 : Hp) (F0 : Addr → Prop) (H1 : Hp) (F1 : Addr → Prop) : Prop where
  sub : ∀ a o, H0 a = some o → H1 a = some o
  up : ∀ a, F0 a → F1 a
  low : ∀ a, F1 a → F0 a ∨ H0 a = none
theorem Nest.low' {H1 : Hp} {F1 F : Addr → Prop} (n : Nest H0 F0 H1 F1) (h : ∀ a, F a → F1 a ∨ H1 a = none) : ∀ a, F a → F0 a ∨ H0 a = none := fun a e => by
  rcases h a e with q | q
  · exact n.low a q
  · right
    cases z : H0 a with
    | none => rfl
    | some o => rw [n.sub a o z] at q; cases q
theorem Nest.inv {H1 : Hp} {F1 F : Addr → Prop} {H : Hp} {σ : L2.St} {δ : DEnv} (n : Nest H0 F0 H1 F1) (I : SInv M H1 F1 O F H σ δ) : SInv M H0 F0 O F H σ δ := by
  refine ⟨I.e, fun a o e => I.sub a o (n.sub a o e), fun a e => I.up a (n.up a e), n.low' I.low, fun i d p h1 h2 h3 => ?_⟩
  have q := I.new i d p h1 h2 h3
  cases z : H0 p with
  | none => rfl
  | some o => rw [n.sub p o z] at q; cases q
theorem Nest.out {H1 : Hp} {F1 : Addr → Prop} {E : Ends} {o : Out} (n : Nest H0 F0 H1 F1) (w : OutP M W H0 F0 O' Ol E o) : OutP M W H1 F1 O' Ol E o := by
  cases o with
  | nxt δ => exact fun σ H F I => w σ H F (n.inv I)
  | brk δ => exact fun σ H F I => w σ H F (n.inv I)
  | cnt δ => exact fun σ H F I => w σ H F (n.inv I)
  | exc k δ => exact fun σ H F I => w σ H F (n.inv I)
  | ret d => exact fun v H F g r => w v H F ⟨fun a o e => g.1 a o (n.sub a o e), fun a e => g.2.1 a (n.up a e), n.low' g.2.2.1, g.2.2.2⟩ r
  | bad => exact w
open Classical in
theorem SInv.narrow {F : Addr → Prop} {H : Hp} {σ : L2.St} {δ : DEnv} (I : SInv M H0 F0 O F H σ δ) : ∃ H1, Nest H0 F0 H1 F ∧ SInv M H1 F O F H σ δ ∧ ∀ H', (∀ a o, H1 a = some o → H' a = some o) → Keep F H H' := by
  let ow : Addr → Prop := fun a => ∃ i d, i ∈ O ∧ δ[i]? = some (some d) ∧ σ[i]? = some (some (.ref a))
  have oh : ∀ a, ow a → ¬ F a ∧ ((∃ l, H a = some (.lst l)) ∨ ∃ φ, H a = some (.ext φ)) ∧ H0 a = none := fun a ⟨i, d, h1, h2, h3⟩ => by
    obtain ⟨p, e1, nf, o⟩ := I.e.own i d h1 h2
    rw [h3] at e1; cases e1
    refine ⟨nf, ?_, I.new i d _ h1 h2 h3⟩
    cases d with
    | lst l => obtain ⟨vs, h, _⟩ := o; exact .inl ⟨vs, h⟩
    | dct l => obtain ⟨es, ep, h, _⟩ := o; exact .inr ⟨_, h⟩
    | _ => exact o.elim
  let H1 : Hp := fun a => if ow a then none else H a
  have h1 : ∀ a, ¬ ow a → H1 a = H a := fun a h => if_neg h
  have h2 : ∀ a o, H1 a = some o → H a = some o := fun a o e => by
    by_cases z : ow a
    · have : H1 a = none := if_pos z
      rw [this] at e; cases e
    · rw [h1 a z] at e; exact e
  refine ⟨H1, ⟨fun a o e => ?_, I.up, I.low⟩, ⟨I.e, h2, fun _ e => e, fun _ e => .inl e, fun i d p a b c => ?_⟩, fun H' k => ⟨fun a xs hF e => ?_, fun a xs e => ?_, fun a o u e => ?_⟩⟩
  · rw [h1 a (fun z => by rw [(oh a z).2.2] at e; cases e)]; exact I.sub a o e
  · exact if_pos ⟨i, d, a, b, c⟩
  · exact k a _ (by rw [h1 a fun z => (oh a z).1 hF]; exact e)
  · exact k a _ (by rw [h1 a fun z => by rcases (oh a z).2.1 with ⟨l, q⟩ | ⟨l, q⟩ <;> (rw [q] at e; cases e)]; exact e)
  · exact k a _ (by rw [h1 a fun z => by rcases (oh a z).2.1 with ⟨l, q⟩ | ⟨l, q⟩ <;> (rw [q] at e; cases e)]; exact e)
theorem ss_for {tg iter : Expr} {body : List Stmt} {vs : List Nat} {fi : DEnv → R (List D)} {gi : D → DEnv → R DEnv} {gb : DEnv → Out} (hp : PassesOwn (model X.prog X.w) X.A X.env X.xe) (hc : X.calm = true) (hi : PI X tg iter (tI M W O fi)) (hg : PG X tg (tGt M O vs gi)) (hb : ∀ H0 F0, PSs X body (tS M W H0 F0 O O O gb))
    (hs : ∀ x, foldedSetIterable iter X.env x = pure x := by intro _; rfl) : PS X (.For tg iter body [] pos) (tS M W H0 F0 O O Ol (forS fi gi gb)) := by
  have hb' : PSs X body (fun E' σ' H' => ∃ H1 F1, tS M W H1 F1 O O O gb E' σ' H') := ⟨fun pins s σ H E' Iv' ⟨H1, F1, q⟩ => (hb H1 F1).run pins s σ H E' Iv' q⟩
  refine ps_imp (ps_for hp hc hi hg hb' hs) fun E σ H ⟨δ, F, I, w⟩ => ?_
  refine ⟨δ, F, I.e, ?_⟩
  unfold forS at w
  cases ef : fi δ with
  | bad => rw [ef] at w; exact w.elim
  | exc n =>
    rw [ef] at w
    intro H' F' g
    obtain ⟨F'', I''⟩ := (I.grow g).dropAll
    exact w σ H' F'' I''
  | ok ds =>
    rw [ef] at w
    intro J H1 F1 g1 dw
    obtain ⟨Hn, nest, In, kp⟩ := (I.grow g1).narrow
    have wk : Walk J ds.length (fun H' => Keep F1 H1 H') (fun i H' x H'' => Keep F1 H1 H' ∧ J.yld i H' x H'') := ⟨fun i H' hi k => dw.go i H' hi k, fun H' k => dw.stop H' k, fun i H' x H'' hi k y => ⟨k, y⟩⟩
    let Pv : Nat → L2.St → Hp → Prop := fun i σ' H' => ∃ δ' F', SInv M Hn F1 O F' H' σ' δ' ∧ OutP M W Hn F1 O Ol E (forL gi gb (ds.drop i) δ')
    refine for_it wk (g := tGt M O vs gi) (tb := fun E' σ' H' => ∃ H1 F1, tS M W H1 F1 O O O gb E' σ' H') (D := E) Pv ⟨δ, F1, In, nest.out (by simpa [inA] using w)⟩ (fun i σ' H' hi p => ?_) (fun i x σ' H' H'' hi p y => ?_) (fun σ' H' p => ?_)
    · obtain ⟨_, _, Iv, _⟩ := p
      exact kp H' Iv.sub
    · obtain ⟨δ', F', I', w'⟩ := p
      obtain ⟨k, y⟩ := y
      obtain ⟨d, ed, hH, rx⟩ := dw.yld i H' x H'' hi k y
      have g2 : Grow F' H' F' H'' := by
        rcases hH with e | ⟨T, xs, hT, e⟩
        · rw [e]; exact Grow.refl I'.e.dom
        · rw [e]; exact Grow.newT I'.e.dom hT
      have I2 := I'.grow g2
      have rx' : Rep M F' H'' x d := rx.mono ⟨fun _ _ _ e => e, fun _ _ e => e, fun _ _ _ e => e⟩ I'.up
      have hdrop : ds.drop i = d :: ds.drop (i + 1) := by
        obtain ⟨hlt, e1⟩ := List.getElem?_eq_some_iff.mp ed
        rw [List.drop_eq_getElem_cons hlt, e1]
      rw [hdrop] at w'
      unfold forL at w'
      refine ⟨δ', F', d, I2.e, rx', ?_⟩
      cases eg : gi d δ' with
      | exc n => rw [eg] at w'; exact w'.elim
      | bad => rw [eg] at w'; exact w'.elim
      | ok δ1 =>
        rw [eg] at w'
        intro σ2 E2 hw hj
        have I3 : SInv M Hn F1 O F' H'' σ2 δ1 := ⟨E2, I2.sub, I2.up, I2.low, fun j e p h1 h2 h3 => by
          obtain ⟨n1, n2⟩ := hj j h1
          have e3 : σ2[j]? = σ'[j]? := by rw [← wipe_out n1 (σ := σ2), hw, wipe_out n1]
          rw [n2] at h2
          rw [e3] at h3
          exact I2.new j e p h1 h2 h3⟩
        refine ⟨Hn, F1, δ1, F', I3, ?_⟩
        simp only at w'
        cases eo : gb δ1 with
        | nxt δ2 => rw [eo] at w'; exact fun σ2 H2 F2 I2 => ⟨δ2, F2, I2, w'⟩
        | cnt δ2 => rw [eo] at w'; exact fun σ2 H2 F2 I2 => ⟨δ2, F2, I2, w'⟩
        | brk δ2 => rw [eo] at w'; exact w'
        | ret d => rw [eo] at w'; exact w'
        | exc k δ2 => rw [eo] at w'; exact w'
        | bad => rw [eo] at w'; exact w'.elim
    · obtain ⟨δ', F', I', w'⟩ := p
      rw [List.drop_length] at w'
      exact w' σ' H' F' I'
/-! ### while -/
def whileL (ft : DEnv → R Bool) (gb : DEnv → Out) : Nat → DEnv → Out
  | 0, _ => .bad
  | n + 1, δ => inT δ (ft δ) fun b => if b then (match gb δ with
      | .nxt δ2 => whileL ft gb n δ2
      | .cnt δ2 => whileL ft gb n δ2
      | .brk δ2 => .nxt δ2
      | o => o) else .nxt δ
theorem ss_while (n : Nat) {c : Expr} {body : List Stmt} {ft : DEnv → R Bool} {gb : DEnv → Out} (hp : PassesOwn (model X.prog X.w) X.A X.env X.xe) (hc : PT X c (tT M W O ft)) (hb : PSs X body (tS M W H0 F0 O O O gb)) : PS X (.While c body [] pos) (tS M W H0 F0 O O Ol (whileL ft gb n)) := ps_imp (ps_while hp hc hb) fun E σ H ⟨δ, F, I, w⟩ => by
  refine ⟨fun m σ' H' => ∃ δ' F', SInv M H0 F0 O F' H' σ' δ' ∧ OutP M W H0 F0 O Ol E (whileL ft gb m δ'), ⟨n, δ, F, I, w⟩, ?_⟩
  rintro m σ' H' ⟨δ', F', I', w'⟩
  cases m with
  | zero => exact w'.elim
  | succ m =>
    unfold whileL at w'
    refine tT.inT I' w' fun b H1 F1 _ g w1 => ?_
    cases b with
    | false => exact w1 σ' H1 F1 (I'.grow g)
    | true =>
      simp only [if_true] at w1 ⊢
      refine ⟨fun σ2 H2 => ∃ δ2 F2, SInv M H0 F0 O F2 H2 σ2 δ2 ∧ OutP M W H0 F0 O Ol E (whileL ft gb m δ2), fun σ2 H2 q => ⟨m, Nat.lt_succ_self m, q⟩, δ', F1, I'.grow g, ?_⟩
      cases eo : gb δ' with
      | nxt δ2 => rw [eo] at w1; exact fun σ2 H2 F2 I2 => ⟨δ2, F2, I2, w1⟩
      | cnt δ2 => rw [eo] at w1; exact fun σ2 H2 F2 I2 => ⟨δ2, F2, I2, w1⟩
      | brk δ2 => rw [eo] at w1; exact w1
      | ret d => rw [eo] at w1; exact w1
      | exc k δ2 => rw [eo] at w1; exact w1
      | bad => rw [eo] at w1; exact w1.elim
end
end CL

namespace CL
open PySem PySem.Spec PyProof.Rows L2

/-! ### sorted rows of texts -/
def leL (a b : List Nat) : Bool := !ltCps b a
def ins (x : List Nat) : List (List Nat) → List (List Nat)
  | [] => [x]
  | y :: r => if leL x y then x :: y :: r else y :: ins x r
def isort : List (List Nat) → List (List Nat)
  | [] => []
  | x :: r => ins x (isort r)
theorem ltCps_irrefl : ∀ a : List Nat, ltCps a a = false
  | [] => rfl
  | x :: r => by simp [ltCps, ltCps_irrefl r]
theorem ltCps_asymm : ∀ a b : List Nat, ltCps a b = true → ltCps b a = false
  | [], [], h => by simp [ltCps] at h
  | [], _ :: _, _ => rfl
  | _ :: _, [], h => by simp [ltCps] at h
  | x :: r, y :: t, h => by
    simp only [ltCps, Bool.or_eq_true, decide_eq_true_eq, Bool.and_eq_true, beq_iff_eq] at h
    simp only [ltCps, Bool.or_eq_false_iff, decide_eq_false_iff_not, Bool.and_eq_false_imp, beq_iff_eq]
    rcases h with h | ⟨h, h2⟩
    · exact ⟨by omega, fun e => by omega⟩
    · exact ⟨by omega, fun _ => ltCps_asymm r t h2⟩
theorem leL_antisymm : ∀ a b : List Nat, leL a b = true → leL b a = true → a = b
  | [], [], _, _ => rfl
  | [], _ :: _, _, h => by simp [leL, ltCps] at h
  | _ :: _, [], h, _ => by simp [leL, ltCps] at h
  | x :: r, y :: t, h1, h2 => by
    simp only [leL, ltCps, Bool.not_eq_true', Bool.or_eq_false_iff, decide_eq_false_iff_not, Bool.and_eq_false_imp, beq_iff_eq] at h1 h2
    have e : x = y := by omega
    subst e
    rw [leL_antisymm r t (by simp [leL, h1.2 rfl]) (by simp [leL, h2.2 rfl])]
theorem leL_trans : ∀ a b c : List Nat, leL a b = true → leL b c = true → leL a c = true
  | [], _, c, _, _ => by cases c <;> rfl
  | _ :: _, [], _, h, _ => by simp [leL, ltCps] at h
  | _ :: _, _ :: _, [], _, h => by simp [leL, ltCps] at h
  | x :: r, y :: t, z :: u, h1, h2 => by
    simp only [leL, ltCps, Bool.not_eq_true', Bool.or_eq_false_iff, decide_eq_false_iff_not, Bool.and_eq_false_imp, beq_iff_eq] at h1 h2 ⊢
    refine ⟨by omega, fun e => ?_⟩
    have e1 : y = x := by omega
    have e2 : z = y := by omega
    have := leL_trans r t u (by simp [leL, h1.2 e1]) (by simp [leL, h2.2 e2])
    simpa [leL] using this
theorem leL_total (a b : List Nat) : leL a b = true ∨ leL b a = true := by
  cases h : ltCps b a with
  | false => exact .inl (by simp [leL, h])
  | true => exact .inr (by simp [leL, ltCps_asymm b a h])
theorem ins_perm (x : List Nat) : ∀ l, (ins x l).Perm (x :: l)
  | [] => .refl _
  | y :: r => by
    unfold ins
    split
    · exact .refl _
    · exact ((ins_perm x r).cons y).trans (.swap x y r)
theorem isort_perm : ∀ l, (isort l).Perm l
  | [] => .refl _
  | x :: r => (ins_perm x _).trans ((isort_perm r).cons x)
theorem ins_sorted (x : List Nat) : ∀ l, l.Pairwise (fun a b => leL a b = true) → (ins x l).Pairwise (fun a b => leL a b = true)
  | [], _ => by simp [ins]
  | y :: r, h => by
    unfold ins
    obtain ⟨h1, h2⟩ := List.pairwise_cons.mp h
    split
    · rename_i hx
      exact List.pairwise_cons.mpr ⟨fun z hz => by
        rcases List.mem_cons.mp hz with e | e
        · exact e ▸ hx
        · exact leL_trans _ _ _ hx (h1 z e), h⟩
    · rename_i hx
      refine List.pairwise_cons.mpr ⟨fun z hz => ?_, ins_sorted x r h2⟩
      rcases List.mem_cons.mp ((ins_perm x r).mem_iff.mp hz) with e | e
      · subst e; exact (leL_total _ _).resolve_left (by simpa using hx)
      · exact h1 z e
theorem isort_sorted : ∀ l, (isort l).Pairwise (fun a b => leL a b = true)
  | [] => .nil
  | x :: r => ins_sorted x _ (isort_sorted r)
theorem isort_unique {l ys : List (List Nat)} (p : ys.Perm l) (h : ys.Pairwise (fun a b => leL a b = true)) : ys = isort l :=
  (p.trans (isort_perm l).symm).eq_of_pairwise (fun a b _ _ h1 h2 => leL_antisymm a b h1 h2) h (isort_sorted l)
theorem rising_pw : ∀ (p : Str) (l : List Str), risingS p l = true → (p :: l).Pairwise (fun a b => leL a.cps.toList b.cps.toList = true)
  | p, [], _ => by simp
  | p, x :: r, h => by
    simp only [risingS, Bool.and_eq_true] at h
    have ih := rising_pw x r h.2
    refine List.pairwise_cons.mpr ⟨fun z hz => ?_, ih⟩
    rcases List.mem_cons.mp hz with e | e
    · subst e; exact h.1
    · exact leL_trans _ _ _ h.1 ((List.pairwise_cons.mp ih).1 z e)
theorem sortedS_pw {l : List Str} (h : sortedS l = true) : l.Pairwise (fun a b => leL a.cps.toList b.cps.toList = true) := by
  cases l with
  | nil => exact .nil
  | cons p r => exact rising_pw p r h
/-- what is sorted and has the same signs is the mirror's row -/
theorem sorted_is {ss : List (List Nat)} {ys : List Str} (p : ys.Perm (ss.map fun s => (⟨s.toArray⟩ : Str))) (h : sortedS ys = true) : ys = (isort ss).map fun s => (⟨s.toArray⟩ : Str) := by
  have e : (ys.map fun y => y.cps.toList) = isort ss := by
    refine isort_unique ?_ ?_
    · have := p.map (fun y : Str => y.cps.toList)
      simpa [List.map_map, Function.comp_def] using this
    · exact List.pairwise_map.mpr (sortedS_pw h)
  rw [← e, List.map_map]
  have : ((fun s => (⟨s.toArray⟩ : Str)) ∘ fun y : Str => y.cps.toList) = id := by funext y; simp
  rw [this, List.map_id]
def allStr : List D → Option (List (List Nat))
  | [] => some []
  | .str s :: r => (allStr r).map (s :: ·)
  | _ :: _ => none
theorem allStr_eq : ∀ {l : List D} {ss : List (List Nat)}, allStr l = some ss → l = ss.map D.str
  | [], ss, h => by simp [allStr] at h; subst h; rfl
  | .str s :: r, ss, h => by
    simp only [allStr, Option.map_eq_some_iff] at h
    obtain ⟨t, h1, h2⟩ := h
    subst h2
    rw [allStr_eq h1]; rfl
  | .non :: _, _, h => by simp [allStr] at h
  | .bl _ :: _, _, h => by simp [allStr] at h
  | .int _ :: _, _, h => by simp [allStr] at h
  | .lst _ :: _, _, h => by simp [allStr] at h
  | .tup _ :: _, _, h => by simp [allStr] at h
  | .dct _ :: _, _, h => by simp [allStr] at h
  | .opq _ _ :: _, _, h => by simp [allStr] at h
theorem allStr_map (ss : List (List Nat)) : allStr (ss.map D.str) = some ss := by
  induction ss with
  | nil => rfl
  | cons s r ih => simp [allStr, ih]
/-- sorted(x): of a text, of a row of texts; fewer than 64 -/
def D.sorted : List D → R D
  | [.str s] => if s.length < 64 then .ok (.lst ((isort (s.map fun c => [c])).map D.str)) else .bad
  | [.lst l] => (match allStr l with | some ss => if ss.length < 64 then .ok (.lst ((isort ss).map D.str)) else .bad | none => .bad)
  | _ => .bad
section
variable {X : Cx} {M : Md}
theorem all2_one {F : Addr → Prop} {H : Hp} {vs : List V} {d : D} (r : All2 (RepB M F H) vs [d]) : ∃ v, vs = [v] ∧ RepB M F H v d := by
  cases r with
  | cons a b => cases b; exact ⟨_, rfl, a⟩
theorem all2_two {F : Addr → Prop} {H : Hp} {vs : List V} {d e : D} (r : All2 (RepB M F H) vs [d, e]) : ∃ v u, vs = [v, u] ∧ RepB M F H v d ∧ RepB M F H u e := by
  cases r with
  | cons a b => cases b with | cons b c => cases c; exact ⟨_, _, rfl, a, b⟩
theorem strOk_mem {ss : List (List Nat)} (h : ∀ s ∈ ss, strOk s) : ∀ s ∈ isort ss, strOk s := fun s hs => h s ((isort_perm ss).mem_iff.mp hs)
theorem signs_at : ∀ (us : List Value) (cs : List Nat), us.length = cs.length → (∀ (j : Nat) (v : Value), us[j]? = some v → ∃ c t, cs[j]? = some c ∧ v = .str ⟨#[c]⟩ t) → StrsAre us (cs.map fun c => (⟨#[c]⟩ : Str))
  | [], [], _, _ => .nil
  | u :: us, c :: cs, hl, h => by
    obtain ⟨c', t, e1, e2⟩ := h 0 u rfl
    cases e1
    subst e2
    refine .cons _ _ (signs_at us cs (by simpa using hl) fun j v e => ?_)
    obtain ⟨c, t, a, b⟩ := h (j + 1) v (by simpa using e)
    exact ⟨c, t, by simpa using a, b⟩
  | [], _ :: _, hl, _ => by simp at hl
  | _ :: _, [], hl, _ => by simp at hl
theorem call_sorted_text (hc : X.calm = true) : CallR X (.builtin "sorted") (fun xs H Q => ∃ z : Str, xs = [.str z] ∧ z.cps.size < 64 ∧ ∀ (ys : List Str) (p : Addr), ys.Perm (z.cps.toList.map fun c => (⟨#[c]⟩ : Str)) → sortedS ys = true → H p = none → Q (.ref p) (upd H p (.lst (ys.map V.str)))) := by
  intro pins s σ H xs us Q I r ⟨z, ex, h64, q⟩
  subst ex
  obtain ⟨u, eu, rx⟩ := vals1 r
  subst eu
  obtain ⟨t, rfl⟩ := rx
  refine Calls.call_function_entry PyProof.Rows.kind_sorted PyProof.Rows.plain_sorted PyProof.Rows.entry_sorted (PyProof.Rows.args_sorted1 _) ?_
  unfold Builtin.«sorted»
  refine wpAny_bind (m := checkCount "sorted" 1 1 _) (wpAny_pure ?_)
  refine wpAny_bind (wpAny_collect_str (A := X.A.in1) (I.ok.hd hc) z t (fun s1 acc kp gg dd oo hacc => ?_) (by rw [sizeLine_eq]; omega))
  obtain ⟨h1, g1, d1, t1, o1⟩ := s1
  have eo : o1 = s.os := oo
  have eg : g1 = s.gens := gg
  have ed : d1 = s.drawn := dd
  subst eo eg ed
  have I1 : L2.Inv X pins σ H { s with heap := h1, toks := t1 } := I.kept kp
  have hl : acc.toList.length = z.cps.toList.length := by rw [Array.length_toList, hacc.1, Array.length_toList]
  have hS : StrsAre acc.toList (z.cps.toList.map fun c => (⟨#[c]⟩ : Str)) := signs_at _ _ hl fun j v e => by
    obtain ⟨c, t', e1, e2⟩ := hacc.2 j v (by rw [← Array.getElem?_toList]; exact e)
    exact ⟨c, t', by simpa using e1, e2⟩
  have hl64 : acc.toList.length < 64 := by rw [hl, Array.length_toList]; exact h64
  refine wpAny_bind (wpAny_newList ?_ (by rw [sizeLine_eq]; omega))
  have hob : (h1.push (seqObj "list" acc.toList.toArray 0)).get? h1.objs.size = some (seqObj "list" acc.toList.toArray 0) := Heap.get?_push_size _ rfl
  show wpAny _ _ _ _ _ { s with heap := h1.push (seqObj "list" acc.toList.toArray 0), toks := t1 }
  refine wpAny_bind (wpAny_holding (wpAny_call_entry PyProof.Rows.slot_list_sort ⟨_, hob, rfl⟩ PyProof.Rows.entry_list_sort ?_ (PyProof.Rows.args_list_sort _)))
  refine list_sort_treeK strKind_oneLt (s := { s with heap := h1.push (seqObj "list" acc.toList.toArray 0), toks := t1 }) hob hS.keysOf (fun v₁ v₂ rest e => keyKind_strs (by rw [← e]; exact hS)) hl64 fun st' hp hs => ⟨_, rfl, ?_⟩
  obtain ⟨ys, g1, g2, g3⟩ := sorted_out_str hS hp hs
  obtain ⟨e', he'⟩ := PyProof.Rows.sortedHeap_at (vs := acc.toList) (out := (arrOf st').map (·.2)) hob
  have hlen : (ys.map V.str).length ≤ sizeLine := by
    rw [List.length_map, g2.length_eq, List.length_map, ← hl, sizeLine_eq]; omega
  refine wpAny_pure ⟨_, rfl, .ref h1.objs.size, upd H h1.objs.size (.lst (ys.map V.str)), I1.laid (t' := t1) (fun b u e => ?_) (Nat.le_refl _) ?_, rfl, q ys _ g2 g3 (I1.hok.fresh (Nat.le_refl _))⟩
  · have hb : b < h1.objs.size := Heap.lt_size e
    rw [PyProof.Rows.sortedHeap_old (Nat.ne_of_lt hb) (by rw [size_push']; exact Nat.lt_succ_of_lt hb)]
    exact Heap.get?_push_of_some _ e
  · exact ⟨hlen, ((arrOf st').map (·.2)).toList, e', vals_of_strs g1, by rw [Array.toArray_toList]; exact he'⟩
theorem cd_sorted (hc : X.calm = true) : CallR X (.builtin "sorted") (rC M D.sorted) := by
  intro pins s σ H vs us Q I rv ⟨F, ds, dm, r, w⟩
  unfold D.sorted at w
  split at w
  · obtain ⟨v, rfl, r1⟩ := all2_one r
    cases (show Rep M F H v _ from r1) with
    | str ok =>
      split at w
      · rename_i cs h
        refine call_sorted_text hc pins s σ H _ us Q I rv ⟨_, rfl, by simpa using h, fun ys p hp hs hn => ?_⟩
        have e := sorted_is (ss := cs.map fun c => [c]) (by simpa [List.map_map, Function.comp_def] using hp) hs
        rw [e]
        refine w (.ref p) _ _ (Grow.newL dm hn) (.lst (.inr rfl) upd_same (RepAll.of_strs (strOk_mem fun s hs => ?_)))
        obtain ⟨c, hc, rfl⟩ := List.mem_map.mp hs
        exact ⟨by simp [lim], fun c' h' => by simp at h'; subst h'; exact ok.2 _ hc⟩
      · exact w.elim
  · obtain ⟨v, rfl, a, xs, rfl, h1, r1⟩ := all2_one r
    split at w
    · rename_i ss hss
      rw [allStr_eq hss] at r1
      obtain ⟨e1, ok⟩ := r1.strs
      split at w
      · rename_i h
        refine cr_sortedS pins s σ H _ us Q I rv ⟨a, _, rfl, SqL.of (by rw [h1, e1]), by simpa using h, fun ys p hp hs hn => ?_⟩
        rw [sorted_is hp hs]
        exact w (.ref p) _ _ (Grow.newL dm hn) (.lst (.inr rfl) upd_same (RepAll.of_strs (strOk_mem ok)))
      · exact w.elim
    · exact w.elim
  · exact w.elim
end
end CL

namespace CL
open PySem PySem.Spec PyProof.Rows L2

/-! ### len(set(text)) -/
def ddup (l : List Nat) : List Nat := l.foldl (fun acc c => if acc.contains c then acc else acc ++ [c]) []
def stepD (acc : List Nat) (c : Nat) : List Nat := if acc.contains c then acc else acc ++ [c]
theorem ddup_snoc (l : List Nat) (c : Nat) : ddup (l ++ [c]) = stepD (ddup l) c := by unfold ddup; rw [List.foldl_append]; rfl
theorem ddup_len (l : List Nat) : (ddup l).length ≤ l.length := by
  have key : ∀ (l acc : List Nat), (l.foldl stepD acc).length ≤ acc.length + l.length := by
    intro l
    induction l with
    | nil => intro acc; simp
    | cons c r ih =>
      intro acc
      refine Nat.le_trans (ih _) ?_
      unfold stepD
      split <;> simp <;> omega
  have := key l []
  rw [List.length_nil, Nat.zero_add] at this
  exact this
abbrev sg (c : Nat) : Str := ⟨#[c]⟩
theorem sg_inj {c d : Nat} : sg c = sg d ↔ c = d := by
  constructor
  · intro h; injection h with h; simpa using h
  · intro h; rw [h]
def memS (l : List Nat) (z : Str) : Bool := l.any fun c => decide (z = sg c)
theorem memS_sg (l : List Nat) (c : Nat) : memS l (sg c) = l.contains c := by
  unfold memS
  induction l with
  | nil => rfl
  | cons d r ih =>
    rw [List.any_cons, ih, List.contains_cons]
    congr 1
    by_cases h : c = d
    · subst h; simp
    · have : ¬ sg c = sg d := fun e => h (sg_inj.mp e)
      simp [h]
theorem memS_step (l : List Nat) (c : Nat) (z : Str) : memS (stepD l c) z = (memS l z || decide (z = sg c)) := by
  unfold stepD
  split
  · rename_i h
    by_cases e : z = sg c
    · subst e; rw [memS_sg, h]; rfl
    · simp [e]
  · unfold memS; rw [List.any_append]; simp
section
variable {P : Program} {w : World} {A : Around} {E : Value → Shared → Prop} {Rr : Result → Shared → Prop} {I : Addr} {fp wr : List Addr} {G : Array GenState → Array GenState → Prop} {n : Nat} {Pi : Nat → Value → Prop} {Si : Nat → Shared → Prop}
theorem strIs (z : Str) (t : Tok) : (strKind P w).is z (.str z t) = true := L2.keyIs_str z t
theorem set_signs (Wk : WalksS P w A.in1 I fp wr G n Pi Si) (S : Addr) (nS : S ∉ fp) (cs : List Nat) (hcs : cs.length = n) (hv : ∀ i v, Pi i v → ∃ c t, cs[i]? = some c ∧ v = .str (sg c) t) (hb : n + 1 < scanBound) :
    ∀ (k i : Nat) (s : Shared), n - i = k → i ≤ n → Si i s → s.heap.SetOf (strKind P w) S (memS (ddup (cs.take i))) (ddup (cs.take i)).length →
      (∀ s', Moved (S :: wr) G s s' → s'.heap.SetOf (strKind P w) S (memS (ddup cs)) (ddup cs).length → Rr (.ok (.ret .none)) s') →
      codeAny (model P w) A (.builtin "set.update.loop" ⟨[.ref S, .ref I], []⟩) Rr s := by
  have nw : S ∉ wr := fun z => nS (Wk.sub _ z)
  have up : ∀ b ∈ wr, b ∈ S :: wr := fun b z => List.mem_cons_of_mem _ z
  intro k
  induction k with
  | zero =>
    intro i s ek hi st hS fin
    have ei : i = n := by omega
    subst ei
    refine codeAny_builtin PyProof.Rows.F.entry_set_update_loop ?_
    rw [Around.under_plainId PyProof.Rows.F.plain_set_update_loop _]
    refine wpAny_bind (Wk.done s _ _ st fun s1 mv => ?_)
    refine wpAny_pure (fin s1 (mv.mono up) ?_)
    obtain ⟨o, es, ep, tb, ho, q⟩ := hS
    rw [← hcs, List.take_length] at q
    exact ⟨o, es, ep, tb, mv.heap S _ nw ho, q⟩
  | succ k ih =>
    intro i s ek hi st hS fin
    have lt : i < n := by omega
    refine codeAny_builtin PyProof.Rows.F.entry_set_update_loop ?_
    rw [Around.under_plainId PyProof.Rows.F.plain_set_update_loop _]
    refine wpAny_bind (Wk.item i s _ _ lt st fun v s1 hp st1 mv => ?_)
    obtain ⟨c, t, ec, rfl⟩ := hv i v hp
    have hS1 : s1.heap.SetOf (strKind P w) S (memS (ddup (cs.take i))) (ddup (cs.take i)).length := by
      obtain ⟨o, es, ep, tb, ho, q⟩ := hS
      exact ⟨o, es, ep, tb, mv.heap S _ nw ho, q⟩
    have ht : cs.take (i + 1) = cs.take i ++ [c] := by
      obtain ⟨h1, h2⟩ := List.getElem?_eq_some_iff.mp ec
      rw [List.take_succ_eq_append_getElem h1, h2]
    show wpAny _ A.in1 (holding [Value.str (sg c) t] (setAdd S (.str (sg c) t)) >>= _) _ _ s1
    refine wpAny_bind (wpAny_holding ?_)
    unfold setAdd
    refine wpAny_holding (wpAny_bind ((strKind P w).pyHash (k := sg c) (strIs _ _) ?_))
    have room : (ddup (cs.take i)).length + 1 < scanBound := by
      have h1 := ddup_len (cs.take i)
      have h2 : (cs.take i).length ≤ i := List.length_take_le i cs
      omega
    refine wpAny_setAddHashed_of (knd := strKind P w) (s := { s1 with toks := s1.toks + 1 }) (strIs _ _) rfl hS1 room fun h2 sb hS2 => ?_
    have hS3 : h2.SetOf (strKind P w) S (memS (ddup (cs.take (i + 1)))) (ddup (cs.take (i + 1))).length := by
      refine SetOf_congr hS2 (fun z => ?_) ?_
      · rw [ht, ddup_snoc, memS_step]
      · rw [ht, ddup_snoc, memS_sg]
        unfold stepD
        split <;> simp
    refine wpAny_pure ⟨plainId_quiet PyProof.Rows.F.plain_set_update_loop _, ih (i + 1) _ (by omega) lt (Wk.frame _ s1 _ _ st1 (Nat.le_succ _) fun b z o e => ?_) hS3 fun s4 mv4 hS4 => ?_⟩
    · rw [sb.2 b fun q => nS (by rw [← q]; exact z)]; exact e
    · refine fin s4 (Moved.trans Wk.gtrans ((mv.mono up).then_heap (Nat.le_succ _) fun b o z e => ?_) mv4) hS4
      rw [sb.2 b fun q => z (by rw [q]; exact List.mem_cons_self)]; exact e
variable {s : Shared}
set_option maxHeartbeats 3200000 in
theorem call_set_text {Q : Value → Shared → Prop} (hh : A.handled = none) (x : Str) (t : Tok) (hb : x.cps.size + 1 < scanBound)
    (fin : ∀ (h' : Heap) (tk : Nat), h'.SetOf (strKind P w) s.heap.objs.size (memS (ddup x.cps.toList)) (ddup x.cps.toList).length → (∀ b o, b < s.heap.objs.size → s.heap.get? b = some o → h'.get? b = some o) → Q (.ref s.heap.objs.size) { s with heap := h', toks := tk }) :
    wpAny (model P w) A (call (.type "set") [.str x t]) Q E s := by
  obtain ⟨c0, tl0, mro0⟩ := F.called_set.mro
  have made0 := F.called_set.made
  have sub0 := F.called_set.sub
  refine wpAny_call (codeAny_of_tree ?_)
  show wpAny _ _ (callAny (.type "set") _) _ _ _
  refine wpAny_pure ⟨Code.quiet_builtin _ (by decide +kernel), codeAny_builtin F.entry_type_call ?_⟩
  rw [Around.under_plain (weight_type_call_type "set" [.str x t] []) rfl]
  have nt0 := F.called_set.notType
  have cc0 := F.called_set.canCreate
  have tc0 := F.typeCall_set_1 (.str x t)
  repeat (any_goals (first | assumption | wp_step))
  let nw : Bool → Obj := fun led => { cls := .type "set", dict := none, data := .set #[] 0 (.fresh 0 0 led) }
  refine codeAny_mono (code_set_new_1 (.str x t) (E := E) (Q₁ := fun obj s1 => ∃ led : Bool, obj = .ref s.heap.objs.size ∧ s1 = { s with heap := s.heap.push (nw led) }) fun led => ⟨led, rfl, rfl⟩) fun r s1 hr => ?_
  cases r with
  | error e => exact hr
  | ok fl =>
    cases fl with
    | ret obj =>
      obtain ⟨led, rfl, rfl⟩ := hr
      have gS : (s.heap.push (nw led)).get? s.heap.objs.size = some (nw led) := Heap.get?_push_size _ rfl
      have tS : Shared.TypeIs { s with heap := s.heap.push (nw led) } (.ref s.heap.objs.size) "set" := ⟨_, gS, rfl⟩
      have il0 := F.called_set.init.lookup
      have ib0 := F.called_set.init.bind (.ref s.heap.objs.size)
      repeat (any_goals (first | assumption | wp_step))
      refine codeAny_mono (codeAny_call_builtin (R := wants (fun r s2 => r = .none ∧ ∃ h' tk, s2 = { s with heap := h', toks := tk } ∧ h'.SetOf (strKind P w) s.heap.objs.size (memS (ddup x.cps.toList)) (ddup x.cps.toList).length ∧
          (∀ b o, b < s.heap.objs.size → s.heap.get? b = some o → h'.get? b = some o)) E) F.called_set.init.plain F.entry_set_init (check_set_init_1 tS ?_)) fun r2 s2 hr2 => ?_
      · have ss1 := F.sub_str_set
        have ss2 := F.sub_str_frozenset
        have nd0 : (Value.type "str" == Value.type "dict") = false := by decide
        unfold Builtin.«set.__init__» noKeywords Builtin.Frozenset.updateFrom
        generalize hPI : pyIter = PI
        wp_walk
        subst hPI
        have hh3 : A.in1.in1.in1.handled = none := by simp [hh]
        have go : ∀ (ty : String), (ty = "str_ascii_iterator" ∨ ty = "str_iterator") → codeAny (model P w) A.in1.in1 (.builtin "set.update.loop" ⟨[.ref s.heap.objs.size, .ref (s.heap.push (nw led)).objs.size], []⟩)
            (wants (fun r s2 => r = .none ∧ ∃ h' tk, s2 = { s with heap := h', toks := tk } ∧ h'.SetOf (strKind P w) s.heap.objs.size (memS (ddup x.cps.toList)) (ddup x.cps.toList).length ∧ (∀ b o, b < s.heap.objs.size → s.heap.get? b = some o → h'.get? b = some o)) E)
            { s with heap := (s.heap.push (nw led)).push { cls := .type ty, data := .fields #[.str x t, .int 0 0] } } := by
          intro ty hty
          have Wk : Walks P w A.in1.in1.in1 (s.heap.push (nw led)).objs.size [(s.heap.push (nw led)).objs.size] [(s.heap.push (nw led)).objs.size] x.cps.size (SignAt x) (fun i h => h.IsStrIter (s.heap.push (nw led)).objs.size ty x t i) := by
            rcases hty with e | e
            · rw [e]; exact Walks.strAscii hh3 _ x t
            · rw [e]; exact Walks.strWide hh3 _ x t
          have nS : s.heap.objs.size ∉ [(s.heap.push (nw led)).objs.size] := by
            rw [Heap.size_push]; simp
          refine set_signs Wk.toS s.heap.objs.size nS x.cps.toList (by simp) (fun i v hp => ?_) hb (x.cps.size - 0) 0 _ (by omega) (Nat.zero_le _) ⟨_, Heap.get?_push_size _ rfl, rfl, rfl⟩ ?_ fun s4 mv hS => ?_
          · obtain ⟨c, u, h1, h2⟩ := hp
            exact ⟨c, u, by simpa using h1, h2⟩
          · have g2 : ((s.heap.push (nw led)).push { cls := .type ty, data := .fields #[.str x t, .int 0 0] }).get? s.heap.objs.size = some (nw led) := Heap.get?_push_of_some _ gS
            exact SetOf_congr ((setObjOf_fresh (knd := strKind P w) led).setOf g2 (by unfold scanBound; omega)) (fun _ => rfl) rfl
          · obtain ⟨h4, g4, d4, t4, o4⟩ := s4
            have eg : g4 = s.gens := mv.gens
            have ed : d4 = s.drawn := mv.drawn
            have eo : o4 = s.os := mv.os
            subst eg; subst ed; subst eo
            refine ⟨rfl, h4, t4, rfl, hS, fun b o lb e => ?_⟩
            refine mv.heap b o ?_ (Heap.get?_push_of_some _ (Heap.get?_push_of_some _ e))
            rw [Heap.size_push]
            simp only [List.mem_cons, List.not_mem_nil, or_false, not_or]
            exact ⟨Nat.ne_of_lt lb, Nat.ne_of_lt (Nat.lt_succ_of_lt lb)⟩
        cases ha : x.cps.all (· < 128) with
        | true =>
          refine wpAny_pyIter_ascii ha (wpAny_bind (wpAny_runValue (codeAny_mono (go _ (.inl rfl)) fun r s5 h5 => ?_)))
          cases r with
          | error e => exact h5
          | ok f5 =>
            cases f5 with
            | ret v5 => exact wpAny_pure (wpAny_pure ⟨rfl, h5.2⟩)
            | _ => exact h5.elim
        | false =>
          refine wpAny_pyIter_wide ha (wpAny_bind (wpAny_runValue (codeAny_mono (go _ (.inr rfl)) fun r s5 h5 => ?_)))
          cases r with
          | error e => exact h5
          | ok f5 =>
            cases f5 with
            | ret v5 => exact wpAny_pure (wpAny_pure ⟨rfl, h5.2⟩)
            | _ => exact h5.elim
      · cases r2 with
        | error e => exact hr2
        | ok f2 =>
          cases f2 with
          | ret r =>
            obtain ⟨rfl, h', tk, rfl, hS', hk'⟩ := hr2
            repeat (any_goals (first | assumption | wp_step))
            exact fin _ _ hS' hk'
          | _ => exact hr2.elim
    | _ => exact hr.elim
end
section
variable {X : Cx} {M : Md} {W : WX} {O : List Nat} {f : DEnv → R D} {pos : Pos}
/-- len(set(text)) -/
def lenSet (f : DEnv → R D) : DEnv → R D := fun δ => (f δ).bind fun d => match d with
  | .str s => if s.length ≤ 4000 then .ok (.int (ddup s).length) else .bad
  | _ => .bad
theorem sd_lenSet {a : Expr} {p p2 q : Pos} (hc : X.calm = true) (hm : X.mg "len" = none) (hm2 : X.mg "set" = none) (ha : PE X a (tD M W O f)) (hg : Gl X "len" := by rfl) (hg2 : Gl X "set" := by rfl)
    (na : starEach [a] X.env = (false, eval a X.env) :: starEach [] X.env := by rfl) (hs1 : starEach [.Call (.Name "set" p2) [a] [] q] X.env = (false, eval (.Call (.Name "set" p2) [a] [] q) X.env) :: starEach [] X.env := by rfl) :
    PE X (.Call (.Name "len" p) [.Call (.Name "set" p2) [a] [] q] [] pos) (tD M W O (lenSet f)) := by
  refine ⟨fun pins s σ H Q I ⟨δ, F, E, w⟩ => ?_⟩
  refine Call_ (ld_blt I hg hm boot_len ?_)
  refine PyProof.Rows.callWith_builtin1 (PyProof.Rows.args_cons ?_ rfl) rfl rfl
  refine Call_ (ld_blt I hg2 hm2 boot_set ?_)
  have run := ha.run pins s σ H (fun v H1 => ∃ (s : List Nat) (F1 : Addr → Prop), v = .str ⟨s.toArray⟩ ∧ s.length ≤ 4000 ∧ Q (.int (ddup s).length) H1) I ?_
  · refine PyProof.Rows.callWith_type1 (PyProof.Rows.args_cons (thn run fun v s1 ⟨x, H1, I1, r1, q1⟩ => PyProof.Rows.args_nil ?_) na) na rfl
    obtain ⟨cs, _, rfl, hl, q1⟩ := q1
    obtain ⟨t, rfl⟩ := r1
    refine call_set_text (I1.ok.hd hc) _ t (by simp [scanBound]; omega) fun h' tk hS hk => ?_
    refine PyProof.Rows.args_nil ?_
    have e0 : ddup (⟨cs.toArray⟩ : Str).cps.toList = ddup cs := by simp
    rw [e0] at hS
    obtain ⟨o, es, ep, tb, ho, hex, hd, _, _, _, hf, hn⟩ := hS
    have I2 : L2.Inv X pins σ H1 { s1 with heap := h', toks := tk } := I1.kept fun b o e => hk b o (Heap.lt_size e) e
    have hle := ddup_len cs
    exact call_len_set ho hex hd hf (by rw [hn]; omega) ⟨.int (ddup cs).length, H1, I2.tok _, ⟨_, by rw [hn]⟩, q1⟩
  · refine tE.one E w fun d v H1 F1 ed g1 r w1 => ?_
    cases d with
    | str cs =>
      cases r with
      | str ok =>
        by_cases hl : cs.length ≤ 4000
        · simp only [if_pos hl] at w1
          exact ⟨cs, F1, rfl, hl, w1 _ H1 F1 g1 (.int _)⟩
        · simp only [if_neg hl] at w1; exact w1.elim
    | _ => exact w1.elim
end
end CL

namespace CL
open PySem PySem.Spec PyProof.Rows L2

/-! ### len, all, any, sum -/
def D.len : List D → R D
  | [.str s] => .ok (.int s.length)
  | [.lst l] => .ok (.int l.length)
  | [.tup l] => .ok (.int l.length)
  | _ => .bad
def allBl : List D → Option (List Bool)
  | [] => some []
  | .bl b :: r => (allBl r).map (b :: ·)
  | _ :: _ => none
theorem allBl_eq : ∀ {l : List D} {ss : List Bool}, allBl l = some ss → l = ss.map D.bl
  | [], ss, h => by simp [allBl] at h; subst h; rfl
  | .bl s :: r, ss, h => by
    simp only [allBl, Option.map_eq_some_iff] at h
    obtain ⟨t, h1, h2⟩ := h
    subst h2
    rw [allBl_eq h1]; rfl
  | .non :: _, _, h => by simp [allBl] at h
  | .str _ :: _, _, h => by simp [allBl] at h
  | .int _ :: _, _, h => by simp [allBl] at h
  | .lst _ :: _, _, h => by simp [allBl] at h
  | .tup _ :: _, _, h => by simp [allBl] at h
  | .dct _ :: _, _, h => by simp [allBl] at h
  | .opq _ _ :: _, _, h => by simp [allBl] at h
def allInt : List D → Option (List Int)
  | [] => some []
  | .int b :: r => (allInt r).map (b :: ·)
  | _ :: _ => none
theorem allInt_eq : ∀ {l : List D} {ss : List Int}, allInt l = some ss → l = ss.map D.int
  | [], ss, h => by simp [allInt] at h; subst h; rfl
  | .int s :: r, ss, h => by
    simp only [allInt, Option.map_eq_some_iff] at h
    obtain ⟨t, h1, h2⟩ := h
    subst h2
    rw [allInt_eq h1]; rfl
  | .non :: _, _, h => by simp [allInt] at h
  | .str _ :: _, _, h => by simp [allInt] at h
  | .bl _ :: _, _, h => by simp [allInt] at h
  | .lst _ :: _, _, h => by simp [allInt] at h
  | .tup _ :: _, _, h => by simp [allInt] at h
  | .dct _ :: _, _, h => by simp [allInt] at h
  | .opq _ _ :: _, _, h => by simp [allInt] at h
theorem allBl_map (ss : List Bool) : allBl (ss.map D.bl) = some ss := by
  induction ss with
  | nil => rfl
  | cons s r ih => simp [allBl, ih]
theorem allInt_map (ss : List Int) : allInt (ss.map D.int) = some ss := by
  induction ss with
  | nil => rfl
  | cons s r ih => simp [allInt, ih]
def D.all : List D → R D
  | [.lst l] => (match allBl l with | some bs => .ok (.bl (bs.all id)) | none => .bad)
  | _ => .bad
def D.any : List D → R D
  | [.lst l] => (match allBl l with | some bs => .ok (.bl (bs.any id)) | none => .bad)
  | _ => .bad
def D.sum : List D → R D
  | [.lst l] => (match allInt l with | some bs => .ok (.int bs.sum) | none => .bad)
  | _ => .bad
/-- sep.join(rows of texts) -/
def D.join : D → List D → R D
  | .str a, [.lst l] => (match allStr l with | some ss => if (ss.map (·.length)).sum + ss.length * a.length ≤ lim then .ok (.str (TL.joinL a ss)) else .bad | none => .bad)
  | .str a, [.tup l] => (match allStr l with | some ss => if (ss.map (·.length)).sum + ss.length * a.length ≤ lim then .ok (.str (TL.joinL a ss)) else .bad | none => .bad)
  | _, _ => .bad
/-- text.index(sign), row.index(x) -/
def D.index : D → List D → R D
  | .str s, [.str [c]] => if c ∈ s then .ok (.int (s.idxOf c)) else .bad
  | .lst l, [d] => if d.plain && D.plains l && decide (d.dep ≤ 60) then (match l.findIdx? (fun z => z.eqv d) with | some j => .ok (.int j) | none => .bad) else .bad
  | _, _ => .bad
def tyD : String → D → Bool
  | "str", .str _ => true
  | "list", .lst _ => true
  | _, _ => false
section
variable {X : Cx} {M : Md} {W : WX} {O : List Nat} {f g : DEnv → R D} {fs : DEnv → R (List D)} {pos : Pos} {e o : Expr} {es : List Expr}
theorem cd_len : CallR X (.builtin "len") (rC M D.len) := by
  intro pins s σ H vs us Q I rv ⟨F, ds, dm, r, w⟩
  unfold D.len at w
  split at w
  · obtain ⟨v, rfl, r1⟩ := all2_one r
    cases (show Rep M F H v _ from r1) with
    | str ok =>
      refine call_len_str pins s σ H _ us Q I rv ⟨_, rfl, by rw [str_len, lim_eq]; exact ok.1, ?_⟩
      rw [str_len]
      exact w _ H F (Grow.refl dm) (.int _)
  · obtain ⟨v, rfl, a, xs, rfl, h1, r1⟩ := all2_one r
    refine call_len_seq pins s σ H _ us Q I rv ⟨a, xs, rfl, .inl (SqL.of h1), ?_⟩
    rw [r1.length]
    exact w _ H F (Grow.refl dm) (.int _)
  · obtain ⟨v, rfl, r1⟩ := all2_one r
    cases (show Rep M F H v _ from r1) with
    | tup h1 r1 =>
      refine call_len_seq pins s σ H _ us Q I rv ⟨_, _, rfl, .inr (SqT.of h1), ?_⟩
      rw [r1.length]
      exact w _ H F (Grow.refl dm) (.int _)
  · exact w.elim
theorem cd_all (hc : X.calm = true) : CallR X (.builtin "all") (rC M D.all) := by
  intro pins s σ H vs us Q I rv ⟨F, ds, dm, r, w⟩
  unfold D.all at w
  split at w
  · obtain ⟨v, rfl, a, xs, rfl, h1, r1⟩ := all2_one r
    split at w
    · rename_i bs hb
      rw [allBl_eq hb] at r1
      exact cr_all hc pins s σ H _ us Q I rv ⟨a, bs, rfl, SqL.of (by rw [h1, r1.bls]), w _ H F (Grow.refl dm) (.bl _)⟩
    · exact w.elim
  · exact w.elim
theorem cd_any (hc : X.calm = true) : CallR X (.builtin "any") (rC M D.any) := by
  intro pins s σ H vs us Q I rv ⟨F, ds, dm, r, w⟩
  unfold D.any at w
  split at w
  · obtain ⟨v, rfl, a, xs, rfl, h1, r1⟩ := all2_one r
    split at w
    · rename_i bs hb
      rw [allBl_eq hb] at r1
      exact cr_any hc pins s σ H _ us Q I rv ⟨a, bs, rfl, SqL.of (by rw [h1, r1.bls]), w _ H F (Grow.refl dm) (.bl _)⟩
    · exact w.elim
  · exact w.elim
theorem cd_sum (hc : X.calm = true) : CallR X (.builtin "sum") (rC M D.sum) := by
  intro pins s σ H vs us Q I rv ⟨F, ds, dm, r, w⟩
  unfold D.sum at w
  split at w
  · obtain ⟨v, rfl, a, xs, rfl, h1, r1⟩ := all2_one r
    split at w
    · rename_i bs hb
      rw [allInt_eq hb] at r1
      exact cr_sum hc pins s σ H _ us Q I rv ⟨a, bs, rfl, SqL.of (by rw [h1, r1.ints]), w _ H F (Grow.refl dm) (.int _)⟩
    · exact w.elim
  · exact w.elim

/-! ### methods by values -/
def rM (M : Md) (T : String) (k : D → List D → R D) : V → List V → Hp → VK → Prop := fun x vs H Q => ∃ F a ds, Dom F H ∧ RepB M F H x a ∧ All2 (RepB M F H) vs ds ∧ tyD T a = true ∧ (k a ds).wp (fun d => ∀ v H' F', Grow F H F' H' → Rep M F' H' v d → Q v H') (fun _ => False)
def meth (T : String) (k : D → List D → R D) (f : DEnv → R D) (fs : DEnv → R (List D)) : DEnv → R D := fun δ => (f δ).bind fun a => if tyD T a then (fs δ).bind fun ds => (match k a ds with | .ok d => .ok d | _ => .bad) else .bad
theorem tyV_of {T : String} {F : Addr → Prop} {H : Hp} {v : V} {d : D} (r : RepB M F H v d) (h : tyD T d = true) : tyV X.K T v H := by
  unfold tyD at h
  split at h
  · cases (show Rep M F H v _ from r); rfl
  · obtain ⟨p, vs, rfl, h1, _⟩ := r; exact .inl ⟨rfl, _, SqL.of h1⟩
  · cases h
theorem sd_meth {T id : String} {name : Str} {ap : Pos} {k : D → List D → R D} (pa : PlainAttrs T) (slot : Slot T name id) (hty : typeOf (.builtin id) = pure (.type "method_descriptor")) (hm : MtR X id (rM M T k)) (ho : PE X o (tB M W O f)) (ha : PA X (e :: es) (tA M W O (RepB M) fs))
    (hbase : attributeBase o name X.env (eval o X.env) = eval o X.env := by rfl)
    (hfew : ((backTo pos (starEach (e :: es) X.env)).all (fun x => !x.1) && (backToKw pos (keywordEach [] X.env)).all (fun x => x.1.isSome) && decide ((e :: es).length + ([] : List Keyword).length + (if ([] : List Keyword).isEmpty then 0 else 1) < 30)) = true := by rfl)
    (hline : (ap.endLine == pos.line) = true := by rfl) (hs : starEach (e :: es) X.env = (false, eval e X.env) :: starEach es X.env := by rfl) (hpl : (backTo pos (starEach es X.env)).any (·.1) = false := by rfl) :
    PE X (.Call (.Attribute o name ap) (e :: es) [] pos) (tD M W O (meth T k f fs)) := pe_imp (pe_bm pa slot hty hm ho ha hbase hfew hline hs hpl) fun σ H Q ⟨δ, F, I, w⟩ => by
  refine tE.one I w fun a x H1 F1 ea g1 ra w1 => ?_
  by_cases ht : tyD T a = true
  · simp only [if_pos ht] at w1
    refine ⟨tyV_of ra ht, δ, F1, I.grow g1, R.wp_mono (R.wp_bind w1) (fun ds _ w2 vs H2 F2 g2 rs => ?_) fun n q H2 F2 g2 => q H2 F2 (g1.trans g2)⟩
    refine ⟨F2, a, ds, g2.dom, ra.grow g2, rs, ht, ?_⟩
    cases eo : k a ds with
    | ok d => rw [eo] at w2; exact fun v H' F' g3 r => w2 v H' F' ((g1.trans g2).trans g3) r
    | exc n => rw [eo] at w2; exact w2.elim
    | bad => rw [eo] at w2; exact w2.elim
  · simp only [if_neg ht] at w1; exact w1.elim
theorem join_eq (a : List Nat) (ss : List (List Nat)) : Txt.join ⟨a.toArray⟩ (ss.map fun s => (⟨s.toArray⟩ : Str)) = ⟨(TL.joinL a ss).toArray⟩ := by
  have h1 : TL.tl (Str.join ⟨a.toArray⟩ (ss.map fun s => (⟨s.toArray⟩ : Str))) = TL.joinL a ss := by
    rw [TL.tl_join, List.map_map]
    have : TL.tl ∘ (fun s => (⟨s.toArray⟩ : Str)) = id := by funext s; simp [TL.tl]
    rw [this, List.map_id]
  rw [TL.join_eq]
  have : ∀ z : Str, z = ⟨(TL.tl z).toArray⟩ := fun z => by simp [TL.tl]
  rw [this (Str.join _ _), h1]
theorem joinL_len (a : List Nat) : ∀ ss : List (List Nat), (TL.joinL a ss).length ≤ (ss.map (·.length)).sum + ss.length * a.length
  | [] => by simp [TL.joinL]
  | [p] => by simp [TL.joinL]
  | p :: q :: r => by
    have ih := joinL_len a (q :: r)
    simp only [TL.joinL, List.length_append, List.map_cons, List.sum_cons, List.length_cons] at ih ⊢
    have e : (r.length + 1 + 1) * a.length = (r.length + 1) * a.length + a.length := by rw [Nat.add_mul]; simp
    omega
theorem joinL_mem (a : List Nat) : ∀ (ss : List (List Nat)) (c : Nat), c ∈ TL.joinL a ss → c ∈ a ∨ ∃ s ∈ ss, c ∈ s
  | [], c, h => by simp [TL.joinL] at h
  | [p], c, h => .inr ⟨p, by simp, h⟩
  | p :: q :: r, c, h => by
    simp only [TL.joinL, List.mem_append] at h
    rcases h with h | h | h
    · exact .inr ⟨p, by simp, h⟩
    · exact .inl h
    · rcases joinL_mem a (q :: r) c h with z | ⟨s, z1, z2⟩
      · exact .inl z
      · exact .inr ⟨s, List.mem_cons_of_mem _ z1, z2⟩
theorem joinL_ok {a : List Nat} {ss : List (List Nat)} (ha : strOk a) (h : ∀ s ∈ ss, strOk s) (hl : (ss.map (·.length)).sum + ss.length * a.length ≤ lim) : strOk (TL.joinL a ss) := ⟨Nat.le_trans (joinL_len a ss) hl, fun c hc => by
  rcases joinL_mem a ss c hc with z | ⟨s, z1, z2⟩
  · exact ha.2 c z
  · exact (h s z1).2 c z2⟩
theorem md_join : MtR X "str.join" (rM M "str" D.join) := by
  intro pins s σ H x vs v us Q I rx rv ⟨F, a, ds, dm, ra, rs, _, w⟩
  have lens : ∀ ss : List (List Nat), ((ss.map fun s => (⟨s.toArray⟩ : Str)).map (·.length)) = ss.map (·.length) := fun ss => by
    rw [List.map_map]; congr 1
  unfold D.join at w
  split at w
  · cases (show Rep M F H x _ from ra) with
    | str oka =>
      obtain ⟨v1, rfl, p, xs, rfl, h1, r1⟩ := all2_one rs
      split at w
      · rename_i ss hss
        rw [allStr_eq hss] at r1
        obtain ⟨e1, ok⟩ := r1.strs
        split at w
        · rename_i hl
          refine mt_join pins s σ H _ _ v us Q I rx rv ⟨_, p, _, rfl, rfl, .inl (SqL.of (by rw [h1, e1])), by rw [lens, List.length_map, str_len]; exact hl, ?_⟩
          rw [join_eq]
          exact w _ H F (Grow.refl dm) (.str (joinL_ok oka ok hl))
        · exact w.elim
      · exact w.elim
  · cases (show Rep M F H x _ from ra) with
    | str oka =>
      obtain ⟨v1, rfl, r2⟩ := all2_one rs
      cases (show Rep M F H v1 _ from r2) with
      | tup h1 r1 =>
        split at w
        · rename_i ss hss
          rw [allStr_eq hss] at r1
          obtain ⟨e1, ok⟩ := r1.strs
          split at w
          · rename_i hl
            refine mt_join pins s σ H _ _ v us Q I rx rv ⟨_, _, _, rfl, rfl, .inr (SqT.of (by rw [h1, e1])), by rw [lens, List.length_map, str_len]; exact hl, ?_⟩
            rw [join_eq]
            exact w _ H F (Grow.refl dm) (.str (joinL_ok oka ok hl))
          · exact w.elim
        · exact w.elim
  · exact w.elim

/-! ### text.index(sign) -/
theorem occ1 (x y : Str) (hi : Nat) : ∀ (l : List Nat) (free : Nat), (∀ i ∈ l, free ≤ i) →
    (forIn l ((#[] : Array Nat), free) (StrLaws.occBody x y hi 1)).run.fst.toList = (l.find? fun i => decide (i + y.length ≤ hi ∧ Builtin.Str.subAt x y i = true)).toList
  | [], free, _ => by simp
  | a :: l, free, hf => by
    have stay : ∀ (l : List Nat) (st : Array Nat × Nat), st.fst.size = 1 → (forIn l st (StrLaws.occBody x y hi 1)).run.fst = st.fst := by
      intro l
      induction l with
      | nil => intro st _; rfl
      | cons b r ih =>
        intro st h1
        rw [List.forIn_cons]
        unfold StrLaws.occBody
        rw [if_neg (by rw [h1]; omega)]
        exact ih (st.fst, st.snd) h1
    rw [List.forIn_cons, List.find?_cons]
    unfold StrLaws.occBody
    by_cases hc : a + y.length ≤ hi ∧ Builtin.Str.subAt x y a = true
    · rw [if_pos ⟨⟨⟨by simp, hf a List.mem_cons_self⟩, hc.1⟩, hc.2⟩]
      have := stay l ((#[] : Array Nat).push a, a + y.length) (by simp)
      simp only [decide_eq_true hc]
      show (forIn l ((#[] : Array Nat).push a, a + y.length) (StrLaws.occBody x y hi 1)).run.fst.toList = _
      rw [this]; simp
    · rw [if_neg (fun z => hc ⟨z.1.2, z.2⟩)]
      simp only [decide_eq_false hc]
      exact occ1 x y hi l free fun i hi' => hf i (List.mem_cons_of_mem _ hi')
theorem occ_sign {s : List Nat} {c : Nat} (h : c ∈ s) : Builtin.Str.occurrences (⟨s.toArray⟩ : Str) (sg c) 0 (⟨s.toArray⟩ : Str).length 1 = [s.idxOf c] := by
  rw [StrLaws.occ_eq, occ1 _ _ _ _ _ fun _ _ => Nat.zero_le _]
  have hx : ∀ i, (i + (sg c).length ≤ (⟨s.toArray⟩ : Str).length ∧ Builtin.Str.subAt (⟨s.toArray⟩ : Str) (sg c) i = true) ↔ s[i]? = some c := fun i => by
    have := StrLaws.subAt_one (⟨s.toArray⟩ : Str) c i
    simpa using this
  have hlt : s.idxOf c < s.length := List.idxOf_lt_length_of_mem h
  have : (List.range' 0 ((⟨s.toArray⟩ : Str).length + 1 - 0)).find? (fun i => decide (i + (sg c).length ≤ (⟨s.toArray⟩ : Str).length ∧ Builtin.Str.subAt (⟨s.toArray⟩ : Str) (sg c) i = true)) = some (s.idxOf c) := by
    rw [List.find?_range'_eq_some]
    refine ⟨?_, ?_, fun j _ hj => ?_⟩
    · rw [decide_eq_true_eq, hx, List.getElem?_eq_getElem hlt, List.getElem_idxOf]
    · rw [str_len]; simp; omega
    · have : ¬ s[j]? = some c := fun e => by
        obtain ⟨hj2, e2⟩ := List.getElem?_eq_some_iff.mp e
        have := List.not_of_lt_findIdx (p := (· == c)) (xs := s) (i := j) hj
        simp [e2] at this
      rw [decide_eq_false (by rw [hx]; exact this)]; rfl
  rw [this]; rfl
theorem md_index : MtR X "str.index" (rM M "str" D.index) := by
  intro pins s σ H x vs v us Q I rx rv ⟨F, a, ds, dm, ra, rs, ht, w⟩
  unfold D.index at w
  split at w
  · cases (show Rep M F H x _ from ra) with
    | str oka =>
      obtain ⟨v1, rfl, r1⟩ := all2_one rs
      cases (show Rep M F H v1 _ from r1) with
      | str okc =>
        split at w
        · rename_i h
          exact mt_sindex pins s σ H _ _ v us Q I rx rv ⟨_, _, _, [], rfl, rfl, occ_sign h, w _ H F (Grow.refl dm) (.int _)⟩
        · exact w.elim
  · simp [tyD] at ht
  · exact w.elim
end
end CL

namespace CL
open PySem PySem.Spec PyProof.Rows L2

/-! ### isinstance with a built-in type -/
inductive Ty where | int | bool | str | tuple | list
def Ty.nm : Ty → String
  | .int => "int" | .bool => "bool" | .str => "str" | .tuple => "tuple" | .list => "list"
def isi : Ty → D → Bool
  | .int, .int _ => true
  | .int, .bl _ => true
  | .bool, .bl _ => true
  | .str, .str _ => true
  | .tuple, .tup _ => true
  | .list, .lst _ => true
  | _, _ => false
def isiD (T : Ty) : D → R D
  | .opq _ _ => .bad
  | .dct _ => .bad
  | d => .ok (.bl (isi T d))
theorem isiD_eq (T : Ty) (d : D) (h1 : ∀ n l, d ≠ .opq n l) (h2 : ∀ l, d ≠ .dct l) : isiD T d = .ok (.bl (isi T d)) := by
  cases d with
  | opq n l => exact absurd rfl (h1 n l)
  | dct l => exact absurd rfl (h2 l)
  | _ => rfl
def isiV (T : Ty) (f : DEnv → R D) : DEnv → R D := fun δ => (f δ).bind (isiD T)
def tyNm : D → String
  | .non => "NoneType" | .bl _ => "bool" | .int _ => "int" | .str _ => "str" | .lst _ => "list" | .tup _ => "tuple" | _ => ""
section
variable {X : Cx} {M : Md} {W : WX} {O : List Nat} {f g h : DEnv → R D} {fs : DEnv → R (List D)} {pos : Pos} {e a b c : Expr} {es : List Expr}
theorem tyX_of {F : Addr → Prop} {H : Hp} {v : V} {d : D} (r : RepB M F H v d) (h1 : ∀ n l, d ≠ .opq n l) (h2 : ∀ l, d ≠ .dct l) : TyX X.K H v (.type (tyNm d)) := by
  cases d with
  | lst l => obtain ⟨p, vs, rfl, h, _⟩ := r; exact .base (.lst h)
  | opq n l => exact absurd rfl (h1 n l)
  | dct l => exact absurd rfl (h2 l)
  | non => cases (show Rep M F H v _ from r); exact .base .non
  | bl _ => cases (show Rep M F H v _ from r); exact .base (.bl _)
  | int _ => cases (show Rep M F H v _ from r); exact .base (.int _)
  | str _ => cases (show Rep M F H v _ from r); exact .base (.str _)
  | tup _ => cases (show Rep M F H v _ from r) with | tup h _ => exact .base (.tup h)
theorem kitT (T : Ty) (d : D) (h1 : ∀ n l, d ≠ .opq n l) (h2 : ∀ l, d ≠ .dct l) : kitB (tyNm d) T.nm = some (isi T d) := by
  cases T <;> cases d <;> first
    | (exact absurd rfl (h1 _ _))
    | (exact absurd rfl (h2 _))
    | (simp only [tyNm, Ty.nm, isi]; decide +kernel)
theorem sd_isi (T : Ty) {x : Str} {p p2 : Pos} (hm : X.mg "isinstance" = none) (hmT : X.mg x = none) (hx : bootBuiltins x = some (.type T.nm)) (ha : PE X a (tB M W O f)) (hg : Gl X "isinstance" := by rfl) (hg2 : Gl X x := by rfl) (hn2 : x ≠ "__name__" := by decide) (hd2 : (x == ("__debug__" : Str)) = false := by decide)
    (hs1 : starEach [.Name x p2] X.env = (false, eval (.Name x p2) X.env) :: starEach [] X.env := by rfl)
    (hs : starEach [a, .Name x p2] X.env = (false, eval a X.env) :: starEach [.Name x p2] X.env := by rfl) (hp : (backTo pos (starEach [.Name x p2] X.env)).any (·.1) = false := by rfl) :
    PE X (.Call (.Name "isinstance" p) [a, .Name x p2] [] pos) (tD M W O (isiV T f)) :=
  pe_imp (pe_callB call_isi hg hm boot_isinstance (pa_cons ha (pa_cons (pe_bltn (v := .ty T.nm) hg2 hmT hx rfl hn2 hd2) pa_nil hs1) hs) (by decide) (by decide) hs hp) fun σ H Q ⟨δ, F, I, w⟩ => by
    refine tE.one I w fun d v H1 F1 ed g1 r w1 => ?_
    by_cases h1 : ∃ n l, d = .opq n l
    · obtain ⟨n, l, rfl⟩ := h1; exact w1.elim
    · by_cases h2 : ∃ l, d = .dct l
      · obtain ⟨l, rfl⟩ := h2; exact w1.elim
      · have h1' : ∀ n l, d ≠ .opq n l := fun n l e => h1 ⟨n, l, e⟩
        have h2' : ∀ l, d ≠ .dct l := fun l e => h2 ⟨l, e⟩
        refine ⟨v, .ty T.nm, .type (tyNm d), .type T.nm, isi T d, rfl, .ty _, tyX_of r h1' h2', kit_ty (kitT T d h1' h2'), ?_⟩
        rw [isiD_eq T d h1' h2'] at w1
        exact w1 _ H1 F1 g1 (.bl _)

/-! ### -n; chains -/
def negV (f : DEnv → R D) : DEnv → R D := fun δ => (f δ).bind fun d => match d with | .int i => .ok (.int (-i)) | _ => .bad
theorem sd_neg (ha : PE X a (tD M W O f)) : PE X (.UnaryOp .USub a pos) (tD M W O (negV f)) := pe_imp (pe_un un_neg ha) fun σ H Q ⟨δ, F, I, w⟩ => by
  refine tE.one I w fun d v H1 F1 ed g1 r w1 => ?_
  cases d with
  | int i => cases r; exact ⟨i, rfl, w1 _ H1 F1 g1 (.int _)⟩
  | _ => exact w1.elim
theorem sd_chain {op op' : CmpOp} {k k' : D → D → R D} (ho : OpR X (compareOp op) (rD M k)) (ho' : OpR X (compareOp op') (rD M k')) (ha : PE X a (tB M W O f)) (hb : PE X b (tB M W O g)) (hc : PE X c (tB M W O h)) (hm : lastMarks [op, op'] [b, c] = false := by rfl) : PE X (.Compare a [op, op'] [b, c] pos) (tD M W O (chn k k' f g h)) :=
  pe_imp (pe_chain ho ho' ha hb hc hm) fun _ _ _ q => tChain_of (c := c) q
theorem st_chain {op op' : CmpOp} {k k' : D → D → R D} (ho : OpR X (compareOp op) (rD M k)) (ho' : OpR X (compareOp op') (rD M k')) (ha : PE X a (tB M W O f)) (hb : PE X b (tB M W O g)) (hc : PE X c (tB M W O h)) (hm : lastMarks [op, op'] [b, c] = false := by rfl) : PT X (.Compare a [op, op'] [b, c] pos) (tT M W O (tst (chn k k' f g h))) :=
  pt_imp (pt_chain ho ho' ha hb hc hm) fun σ H Q q => by
    have := tTest_of q
    unfold tTest at this ⊢
    exact tChain_of (c := c) (M := M) (W := W) (O := O) (Q := fun x H' => ∃ k, x = .bl k ∧ Q k H') this

/-! ### slices -/
def cutL {α : Type} (l : List α) (lo hi : Option Int) : List α := (l.drop (HT.sIx l.length 0 lo)).take (HT.sIx l.length l.length hi - HT.sIx l.length 0 lo)
def D.cut (lo hi : Option Int) : D → R D
  | .str s => .ok (.str (cutL s lo hi))
  | .lst s => .ok (.lst (cutL s lo hi))
  | .tup s => .ok (.tup (cutL s lo hi))
  | _ => .bad
theorem cutL_sub {α : Type} (l : List α) (lo hi : Option Int) : (cutL l lo hi).length ≤ l.length ∧ ∀ c ∈ cutL l lo hi, c ∈ l := by
  refine ⟨?_, fun c hc => List.mem_of_mem_drop (List.mem_of_mem_take hc)⟩
  unfold cutL
  rw [List.length_take, List.length_drop]
  omega
def rCut (M : Md) : V → Option Int → Option Int → Hp → VK → Prop := fun x lo hi H Q => ∃ F a, Dom F H ∧ RepB M F H x a ∧ (D.cut lo hi a).wp (fun d => ∀ v H' F', Grow F H F' H' → Rep M F' H' v d → Q v H') (fun _ => False)
theorem RepAll.cut {F : Addr → Prop} {H : Hp} {vs : List V} {ds : List D} (r : RepAll M F H vs ds) (lo hi : Option Int) : RepAll M F H (L2.cutV vs lo hi) (cutL ds lo hi) := by
  unfold L2.cutV cutL
  rw [r.length]
  exact (r.drop _).take _
theorem cutS_is (s : List Nat) (lo hi : Option Int) : cutS (⟨s.toArray⟩ : Str) lo hi = ⟨(cutL s lo hi).toArray⟩ := by unfold cutS cutL; rw [str_len]
theorem ld_cut : SlR X (rCut M) := by
  intro pins s σ H x v vl vu lo hi sl Q I rx hs pl pu ⟨F, a, dm, ra, w⟩
  unfold D.cut at w
  split at w
  · cases (show Rep M F H x _ from ra) with
    | str ok =>
      refine sl_str pins s σ H _ v vl vu lo hi sl Q I rx hs pl pu ⟨_, rfl, by rw [str_len, lim_eq]; exact ok.1, ?_⟩
      rw [cutS_is]
      exact w _ H F (Grow.refl dm) (.str (ok.sub (cutL_sub _ lo hi).1 (cutL_sub _ lo hi).2))
  · obtain ⟨p, vs, rfl, h1, r1⟩ := ra
    refine sl_list pins s σ H _ v vl vu lo hi sl Q I rx hs pl pu ⟨p, vs, rfl, SqL.of h1, fun q hq => ?_⟩
    exact w (.ref q) _ _ (Grow.newL dm hq) (.lst (.inr rfl) upd_same ((r1.cut lo hi).grow (Grow.newL dm hq)))
  · cases (show Rep M F H x _ from ra) with
    | tup h1 r1 =>
      refine sl_tupA pins s σ H _ v vl vu lo hi sl Q I rx hs pl pu ⟨_, _, rfl, SqT.of h1, fun hw => ?_, fun _ q hq => ?_⟩
      · rename_i l0 _ xs
        have e : cutL l0 lo hi = l0 := by
          unfold cutL
          rw [← r1.length, hw.1, hw.2, r1.length]
          simp
        rw [e] at w
        exact w _ H F (Grow.refl dm) (.tup h1 r1)
      · exact w (.ref q) _ _ (Grow.newT dm hq) (.tup upd_same ((r1.cut lo hi).grow (Grow.newT dm hq)))
  · exact w.elim
/-- a part of a slice -/
def tP (M : Md) (W : WX) (O : List Nat) (f : DEnv → R (Option Int)) : TO := fun σ H Q => ∃ δ F, EInv M O F H σ δ ∧
  (f δ).wp (fun o => ∀ H' F', Grow F H F' H' → Q o H') (fun n => ∀ H' F', Grow F H F' H' → W (.ref (M.xc n)) none σ H')
theorem po_imp {oe : Option Expr} {t t' : TO} (h : PO X oe t) (i : ∀ σ H Q, t' σ H Q → t σ H Q) : PO X oe t' := ⟨fun pins s σ H Q I q => h.run pins s σ H Q I (i σ H Q q)⟩
def noP (_ : DEnv) : R (Option Int) := .ok none
def inP (f : DEnv → R D) : DEnv → R (Option Int) := fun δ => (f δ).bind fun d => match d with | .int i => .ok (some i) | _ => .bad
theorem sp_none : PO X none (tP M W O noP) := po_imp po_none fun σ H Q ⟨δ, F, I, w⟩ => w H F (Grow.refl I.dom)
theorem sp_some (h : PE X e (tD M W O f)) : PO X (some e) (tP M W O (inP f)) := po_imp (po_some h) fun σ H Q ⟨δ, F, I, w⟩ => by
  refine tE.one I w fun d v H1 F1 ed g1 r w1 => ?_
  cases d with
  | int i => cases r; exact ⟨i, rfl, w1 H1 F1 g1⟩
  | _ => exact w1.elim
def cutW (f : DEnv → R D) (lo hi : DEnv → R (Option Int)) : DEnv → R D := fun δ => (f δ).bind fun a => (lo δ).bind fun l => (hi δ).bind fun h => match D.cut l h a with | .ok d => .ok d | _ => .bad
theorem sd_cut {lo hi : Option Expr} {fl fh : DEnv → R (Option Int)} {p2 : Pos} (he : PE X e (tB M W O f)) (hl : PO X lo (tP M W O fl)) (hh : PO X hi (tP M W O fh)) : PE X (.Subscript e (.Slice lo hi none p2) pos) (tD M W O (cutW f fl fh)) := pe_imp (pe_slice ld_cut he hl hh) fun σ H Q ⟨δ, F, I, w⟩ => by
  refine tE.one I w fun a x H1 F1 ea g1 ra w1 => ?_
  refine ⟨δ, F1, I.grow g1, R.wp_mono (R.wp_bind w1) (fun l _ w2 H2 F2 g2 => ?_) fun n q H2 F2 g2 => q H2 F2 (g1.trans g2)⟩
  refine ⟨δ, F2, (I.grow g1).grow g2, R.wp_mono (R.wp_bind w2) (fun u _ w3 H3 F3 g3 => ?_) fun n q H3 F3 g3 => q H3 F3 ((g1.trans g2).trans g3)⟩
  refine ⟨F3, a, g3.dom, (ra.grow g2).grow g3, ?_⟩
  cases eo : D.cut l u a with
  | ok d => rw [eo] at w3; exact fun v H' F' g4 r => w3 v H' F' (((g1.trans g2).trans g3).trans g4) r
  | exc n => rw [eo] at w3; exact w3.elim
  | bad => rw [eo] at w3; exact w3.elim

/-! ### text[::-1] -/
theorem sliceAll (s : List Nat) : ((Builtin.Str.strSliceIndices none none (-1) s.length).filterMap (s.toArray[·]?)).toArray = s.reverse.toArray := by
  have h : Builtin.Str.strSliceIndices none none (-1) s.length = sliceRange ((s.length : Int) - 1) (-1) (-1) := by rfl
  rw [h, PySem.W.krv_sliceRange, PySem.W.krv_range, List.filterMap_reverse]
  have := PySem.W.krv_all s.toArray
  rw [List.size_toArray] at this
  rw [this]
def revS (f : DEnv → R D) : DEnv → R D := fun δ => (f δ).bind fun d => match d with | .str s => .ok (.str s.reverse) | _ => .bad
theorem sd_revS {k : Nat} {p1 p2 p3 : Pos} (he : PE X e (tD M W O f)) : PE X (.Subscript e (.Slice none none (some (.UnaryOp .USub (.Constant (.int 1) k p1) p2)) p3) pos) (tD M W O (revS f)) := by
  refine ⟨fun pins s σ H Q I ⟨δ, F, E, w⟩ => ?_⟩
  have run := he.run pins s σ H (fun v H1 => ∃ (s : List Nat), v = .str ⟨s.toArray⟩ ∧ strOk s ∧ Q (.str ⟨s.reverse.toArray⟩) H1) I ?_
  · refine Subscript_ (thn run fun v s1 ⟨x, H1, I1, r1, q1⟩ => ?_)
    obtain ⟨cs, rfl, ok, q1⟩ := q1
    obtain ⟨t, rfl⟩ := r1
    have pm : PO X (some (.UnaryOp .USub (.Constant (.int 1) k p1) p2)) (tPart (tUn (rU fun i => .int (-i)) (tC (.int 1)))) := po_some (pe_un un_neg pe_int)
    refine wpAny_Slice (thn (po_none.run pins s1 σ H1 (fun o H2 => o = none ∧ H2 = H1) I1 ⟨rfl, rfl⟩) fun vl s2 ⟨l, H2, I2, pl, el, e2⟩ => ?_)
    subst el; subst e2
    refine thn (po_none.run pins s2 σ H2 (fun o H3 => o = none ∧ H3 = H2) I2 ⟨rfl, rfl⟩) fun vu s3 ⟨u, H3, I3, pu, eu, e3⟩ => ?_
    subst eu; subst e3
    refine thn (pm.run pins s3 σ H3 (fun o H4 => o = some (-1) ∧ H4 = H3) I3 ⟨1, rfl, -1, rfl, rfl, rfl⟩) fun vm s4 ⟨o, H4, I4, pm4, eo, e4⟩ => ?_
    subst eo; subst e4
    obtain ⟨l1, rfl, el1⟩ := IsPart.raw pl
    obtain ⟨l2, rfl, el2⟩ := IsPart.raw pu
    obtain ⟨l3, rfl, el3⟩ := IsPart.raw pm4
    have I5 : L2.Inv X pins σ H4 { s4 with heap := s4.heap.push { cls := .type "slice", data := .fields #[partValue l1, partValue l2, partValue l3] } } := I4.kept (t' := s4.toks) fun b ob q => Heap.get?_push_of_some _ q
    show wpAny _ X.A (subscriptTail e _ (.str ⟨cs.toArray⟩ t) (.ref s4.heap.objs.size)) _ X.xe _
    refine tail_any (ops := [.ref s4.heap.objs.size, .str ⟨cs.toArray⟩ t]) (typeIs_str _ _ _) PySem.F.slot_str_getitem.lookup ?_ (by with_unfolding_all rfl)
    obtain ⟨i3, t3, rfl, e3⟩ : ∃ i3 t3, l3 = some (i3, t3) ∧ i3 = -1 := by
      cases l3 with
      | none => cases el3
      | some p => exact ⟨p.1, p.2, rfl, Option.some.inj el3⟩
    subst e3
    have e1 : l1 = none := by cases l1 with | none => rfl | some p => cases el1
    have e2 : l2 = none := by cases l2 with | none => rfl | some p => cases el2
    subst e1; subst e2
    refine wpAny_getItem_str_slice (l := none) (u := none) (st := some (-1, t3)) ⟨_, Heap.get?_push_size _ rfl, rfl, rfl⟩ rfl ?_
    have hl : (⟨((Builtin.Str.strSliceIndices none none (-1) (⟨cs.toArray⟩ : Str).length).filterMap ((⟨cs.toArray⟩ : Str).cps[·]?)).toArray⟩ : Str) = ⟨cs.reverse.toArray⟩ := by
      rw [str_len]
      exact congrArg Str.mk (sliceAll cs)
    show Made.post (if ((-1 : Int) == 1 && _) = true then Made.val (.str ⟨cs.toArray⟩ t) else Made.str ⟨((Builtin.Str.strSliceIndices none none (-1) (⟨cs.toArray⟩ : Str).length).filterMap ((⟨cs.toArray⟩ : Str).cps[·]?)).toArray⟩) (EP X pins σ Q) _
    rw [if_neg (by simp), hl]
    refine ⟨by rw [str_len, List.length_reverse, lim_eq]; exact ok.1, .str _, H4, I5.tok _, ⟨_, rfl⟩, q1⟩
  · refine tE.one E w fun d v H1 F1 ed g1 r w1 => ?_
    cases d with
    | str cs =>
      cases r with
      | str ok => exact ⟨cs, rfl, ok, w1 _ H1 F1 g1 (.str (ok.sub (by simp) fun c hc => by simpa using hc))⟩
    | _ => exact w1.elim
end
end CL

namespace CL
open PySem PySem.Spec PyProof.Rows L2

/-! ### enumerate(tuple), enumerate(text) -/
set_option maxHeartbeats 1000000 in
theorem meets_enumT (t : Addr) (items : Array Value) (n : Nat) (dct : Option Addr) (sl : Array (Option Value)) :
    Meets (Builtin.«enumerate.__new__» ⟨[.type "enumerate", .ref t], []⟩) (fun _ R s => s.heap.get? t = some { cls := .type "tuple", dict := dct, data := .seq items n, slots := sl } ∧
      R (.ok (.ret (.ref (s.heap.push { cls := .type "tuple_iterator", data := .fields #[.ref t, .int 0 0] }).objs.size)))
        { s with heap := (s.heap.push { cls := .type "tuple_iterator", data := .fields #[.ref t, .int 0 0] }).push { cls := .type "enumerate", data := .fields #[.none, .bool false, .ref s.heap.objs.size, rawInt 0, .none, .none] } }) :=
  .of_wp fun prog w A R s hh => by
    obtain ⟨hp, g, d, tk, os⟩ := s
    obtain ⟨ht, h⟩ := hh
    have hsub := sub_enumerate
    have hT : Heap.IsTuple (Shared.heap ⟨hp, g, d, tk, os⟩) t items := ⟨_, ht, rfl, n, rfl⟩
    wp_walk using AutoSeq1.wpAny_loadPart' ht
    refine wpAny_stack_any fun st => wpAny_pure ?_
    split
    · rename_i c _ _ _ _ _
      cases (c == Value.type "enumerate")
      · wp_walk using AutoSeq1.wpAny_loadPart' ht, wpAny_pyIter_tuple hT
        exact ⟨_, rfl, h⟩
      · wp_walk using AutoSeq1.wpAny_loadPart' ht, wpAny_pyIter_tuple hT
        exact ⟨_, rfl, h⟩
    · wp_walk using AutoSeq1.wpAny_loadPart' ht, wpAny_pyIter_tuple hT
      exact ⟨_, rfl, h⟩

theorem call_enumT {prog : Program} {w : World} {A : Around} {E : Value → Shared → Prop} {s : Shared} {t : Addr} {items : Array Value} {Q : Value → Shared → Prop} (hT : s.heap.IsTuple t items)
    (h : ∀ h', IsEnum h' (s.heap.objs.size + 1) s.heap.objs.size 0 .none → h'.IsTupleIter s.heap.objs.size t 0 → h'.objs.size = s.heap.objs.size + 2 →
      (∀ b o, s.heap.get? b = some o → h'.get? b = some o) → Q (.ref (s.heap.objs.size + 1)) { s with heap := h' }) :
    wpAny (model prog w) A (call (.type "enumerate") [.ref t]) Q E s := by
  obtain ⟨⟨c, dct, dt, sl⟩, ht, hc, n, hd⟩ := hT
  replace hc : c = .type "tuple" := hc
  replace hd : dt = .seq items n := hd
  subst hc hd
  refine callType_new F.called_enumerate (by decide) (F.typeCall_enumerate_1 _) (F.newCall_enumerate_1 _) (fun obj => F.args_object_init_2 obj _) F.entry_enumerate_new
    (meets_enumT t items n dct sl) ⟨ht, ?_⟩
  generalize hh1 : s.heap.push { cls := .type "tuple_iterator", data := .fields #[.ref t, .int 0 0] } = h1
  have hz : h1.objs.size = s.heap.objs.size + 1 := by rw [← hh1]; exact Heap.size_push ..
  show _ ∧ _
  have he := Heap.get?_push_size h1 (o := { cls := .type "enumerate", data := .fields #[.none, .bool false, .ref s.heap.objs.size, rawInt 0, .none, .none] }) rfl
  rw [hz] at he ⊢
  refine ⟨⟨_, he, rfl⟩, h _ he ⟨_, Heap.get?_push_of_some _ (hh1 ▸ Heap.get?_push_size _ rfl), rfl, rfl⟩ (by rw [Heap.size_push, hz]) fun b o x => Heap.get?_push_of_some _ (hh1 ▸ Heap.get?_push_of_some _ x)⟩
/-- the tuple at a, each item in a new pair -/
def Iet (K : PySem.W.Frag) (a : Addr) : It :=
  ⟨fun i H => ∃ (xs : List V) (x : V), SqT K H a xs ∧ xs[i]? = some x, fun i H v H' => ∃ T x, v = .ref T ∧ H T = none ∧ H' = upd H T (.tup [.int (i : Nat), x]) ∧ ∀ xs, SqT K H a xs → xs[i]? = some x, fun i H => ∃ xs : List V, SqT K H a xs ∧ xs.length = i⟩
theorem turn_enumT {P : Program} {w : World} {K : PySem.W.Frag} {elts : List Expr} {kk : Nat} {tpos : Pos} (a e it : Addr) :
    Turn P w K (.Tuple elts kk tpos) (Iet K a) [e, it] e (fun i h => (∃ old, IsEnum h e it ((i : Nat) : Int) old) ∧ h.IsTupleIter it a i ∧ e ≠ it) where
  mem := by simp
  obj := fun i h st b hb => by
    obtain ⟨⟨old, he⟩, ⟨o, ho, hc, hd⟩, _⟩ := st
    have e' : b = e ∨ b = it := by simpa using hb
    rcases e' with z | z
    · rw [z]; exact ⟨_, he, fun v q => nomatch q⟩
    · rw [z]; exact ⟨o, ho, fun v q => by rw [hd] at q; cases q⟩
  keep := fun i h h' st k => let ⟨⟨old, he⟩, hi, hne⟩ := st; ⟨⟨old, k e (by simp) _ he⟩, hi.at fun o q => k it (by simp) o q, hne⟩
  item := by
    intro X hP hw hK hc i pins s σ H E I hf st hg
    subst hP hw hK
    obtain ⟨⟨old, he⟩, hit, hne⟩ := st
    obtain ⟨xs, x, hq, hx⟩ := hg
    obtain ⟨its, rv, p, hz⟩ := I.tuple hq
    obtain ⟨u, hu, ru⟩ := rv.get hx
    have p' : s.heap.IsTuple a its.toArray := p
    have nit : a ≠ it := fun z => by
      obtain ⟨o, q1, q2, _⟩ := p'
      obtain ⟨o', q3, q4, _⟩ := hit
      rw [z, q3] at q1; cases q1; rw [q2] at q4; simp at q4
    have nie : a ≠ e := fun z => by
      obtain ⟨o, q1, q2, _⟩ := p'
      have q3 : s.heap.get? e = some _ := he
      rw [z, q3] at q1; cases q1; simp at q2
    have hel : e < s.heap.objs.size := Heap.lt_size he
    have hil : it < s.heap.objs.size := by obtain ⟨_, q, _⟩ := hit; exact Heap.lt_size q
    have hi : i < its.toArray.size := by simpa using (List.getElem?_eq_some_iff.1 hu).1
    have G := GoesN.enumFrom (elts := elts) (x1 := kk) (pos := tpos) 0 (Draws.tuple (prog := X.prog) (w := X.w) (A := X.A.in1) (I.ok.hd hc) it a nit its.toArray) e hne (by simp; exact ⟨hne, Ne.symm nie⟩) (by simp)
    refine G.goes i s _ E hi ⟨⟨old, by simpa using he⟩, hit, p'⟩ fun v h' tk hY st' hk htk => ?_
    obtain ⟨T, t, x', rfl, hT, hx', hTT⟩ := hY
    have ex : x' = u := by
      have : its[i]? = some x' := by simpa using hx'
      rw [hu] at this; exact (Option.some.inj this).symm
    subst ex
    have new : ObjOk X.prog X.w (upd H T (.tup [.int (i : Nat), x])) h' T (.tup [.int (i : Nat), x]) :=
      ⟨by show 2 ≤ sizeLine; decide, [.int (0 + i) t, x'], .cons ⟨t, by simp⟩ (.cons ru .nil), hTT⟩
    have I1 : Inv X pins σ (upd H T (.tup [.int (i : Nat), x])) { s with heap := h', toks := tk } :=
      I.turnedNew (ch := [e, it]) hk hf hT new
    obtain ⟨⟨old', he'⟩, hit', _⟩ := st'
    refine ⟨.ref T, _, I1, rfl, ⟨_, x, rfl, I.hok.fresh hT, rfl, fun ys hy => by rw [I.tuple_inj hy hq]; exact hx⟩, ⟨⟨old', by simpa using he'⟩, hit', hne⟩, fun b hb => ?_⟩
    have hb' : b < s.heap.objs.size := by
      have e' : b = e ∨ b = it := by simpa using hb
      rcases e' with z | z
      · rw [z]; exact hel
      · rw [z]; exact hil
    rw [upd_ne (Nat.ne_of_lt (Nat.lt_of_lt_of_le hb' hT))]
    exact (hf b hb).1
  done := by
    intro X hP hw hK hc i pins s σ H E I hf st hg
    subst hP hw hK
    obtain ⟨⟨old, he⟩, hit, hne⟩ := st
    obtain ⟨xs, hq, hx⟩ := hg
    obtain ⟨its, rv, p, hz⟩ := I.tuple hq
    have p' : s.heap.IsTuple a its.toArray := p
    have nit : a ≠ it := fun z => by
      obtain ⟨o, q1, q2, _⟩ := p'
      obtain ⟨o', q3, q4, _⟩ := hit
      rw [z, q3] at q1; cases q1; rw [q2] at q4; simp at q4
    have nie : a ≠ e := fun z => by
      obtain ⟨o, q1, q2, _⟩ := p'
      have q3 : s.heap.get? e = some _ := he
      rw [z, q3] at q1; cases q1; simp at q2
    have hn : its.toArray.size = i := by have := rv.length; simp; omega
    have G := GoesN.enumFrom (elts := elts) (x1 := kk) (pos := tpos) 0 (Draws.tuple (prog := X.prog) (w := X.w) (A := X.A.in1) (I.ok.hd hc) it a nit its.toArray) e hne (by simp; exact ⟨hne, Ne.symm nie⟩) (by simp)
    refine G.stops s _ E ⟨⟨old, by rw [hn]; simpa using he⟩, by rw [hn]; exact hit, p'⟩ fun h' tk hk htk => I.turnedL (ch := [e, it]) hk hf
  self := fun A i s Q E st h => let ⟨⟨_, he⟩, _⟩ := st; wpAny_pyIter_enum he h

def enuOf (fs : DEnv → R (List D)) : DEnv → R (List D) := fun δ => (fs δ).bind fun ds => match ds with
  | [.tup l] => .ok ((List.range l.length).zipWith (fun (i : Nat) x => .tup [.int (i : Nat), x]) l)
  | _ => .bad
theorem walkE {M : Md} {F : Addr → Prop} {H : Hp} {K : PySem.W.Frag} {a : Addr} {vs : List V} {ds : List D} (h : H a = some (.tup vs)) (r : RepAll M F H vs ds) : DWalk M (Iet K a) F H ((List.range ds.length).zipWith (fun (i : Nat) x => .tup [.int (i : Nat), x]) ds) where
  go := fun i H' hi k => by
    have hi' : i < ds.length := by simpa using hi
    obtain ⟨v, hv, _⟩ := r.get (i := i) (d := ds[i]) (by simp [hi'])
    exact ⟨vs, v, SqT.of (k.2.1 a vs h), hv⟩
  stop := fun H' k => ⟨vs, SqT.of (k.2.1 a vs h), by rw [r.length]; simp⟩
  yld := fun i H' x H'' hi k y => by
    have hi' : i < ds.length := by simpa using hi
    obtain ⟨T, x', rfl, hT, rfl, y⟩ := y
    have hv := y vs (SqT.of (k.2.1 a vs h))
    obtain ⟨d, e, q⟩ := r.get' hv
    have k1 : Keep F H (upd H' T (.tup [.int (i : Nat), x'])) := ⟨fun b xs hb e => by have q := k.1 b xs hb e; rw [upd_ne (fun z => by rw [z, hT] at q; cases q)]; exact q, fun b xs e => by have q := k.2.1 b xs e; rw [upd_ne (fun z => by rw [z, hT] at q; cases q)]; exact q, fun b o u e => by have q := k.2.2 b o u e; rw [upd_ne (fun z => by rw [z, hT] at q; cases q)]; exact q⟩
    refine ⟨.tup [.int (i : Nat), d], by simp only [List.getElem?_zipWith, List.getElem?_range hi', e], .inr ⟨T, _, hT, rfl⟩, .tup (upd_same ..) (.cons (.int _) (.cons (q.mono k1 fun _ z => z) .nil))⟩
theorem si_enu {X : Cx} {M : Md} {W : WX} {O : List Nat} {e : Expr} {pos p tpos : Pos} {elts : List Expr} {kk : Nat} {fs : DEnv → R (List D)} (hm : X.mg "enumerate" = none) (ha : PA X [e] (tA M W O (RepB M) fs)) (hg : Gl X "enumerate" := by rfl) (hs : starEach [e] X.env = [(false, eval e X.env)] := by rfl) :
    PI X (.Tuple elts kk tpos) (.Call (.Name "enumerate" p) [e] [] pos) (tI M W O (enuOf fs)) := by
  refine pi_imp (t := fun σ H R => (tA M W O (RepB M) fs) σ H fun vs H1 => ∃ a xs, vs = [.ref a] ∧ SqT X.K H1 a xs ∧ R (Iet X.K a) H1) ⟨fun pins s σ H R I h => ?_⟩ fun σ H Q ⟨δ, F, I, w⟩ => ?_
  · refine Call_ (ld_blt I hg hm boot_enumerate (PyProof.Rows.callWith_type1 (thn (ha.run pos pins s σ H _ I h) fun us s1 ⟨vs, H1, I1, r1, q1⟩ => ?_) hs rfl))
    obtain ⟨a, xs, ex, hq, q⟩ := q1
    subst ex
    cases r1 with
    | cons r rr =>
      cases rr
      cases r
      obtain ⟨its, rv, p', hz⟩ := I1.tuple hq
      refine call_enumT (show s1.heap.IsTuple a its.toArray from p') fun h' he hit hsz hk => wpAny_pyIter_enum he ?_
      have I2 : Inv X pins σ H1 { s1 with heap := h' } := I1.kept (t' := s1.toks) hk
      refine ⟨s1.heap.objs.size + 1, [s1.heap.objs.size + 1, s1.heap.objs.size], _, _, H1, rfl, I2, turn_enumT a (s1.heap.objs.size + 1) s1.heap.objs.size, ⟨⟨.none, he⟩, hit, Nat.succ_ne_self _⟩, fun b hb => ?_, q⟩
      have e' : b = s1.heap.objs.size + 1 ∨ b = s1.heap.objs.size := by simpa using hb
      have hle : s1.heap.objs.size ≤ b := by rcases e' with z | z <;> rw [z] <;> simp
      exact I1.fpOk hle (I1.hok.fresh hle)
  · refine tA.one I w fun ds vs H1 F1 ed g1 r w1 => ?_
    split at w1
    · cases r with
      | cons r1 r2 =>
        cases r2
        cases (show Rep M F1 H1 _ _ from r1) with
        | tup h2 h3 => exact ⟨_, _, rfl, SqT.of h2, w1 _ H1 F1 g1 (walkE h2 h3)⟩
    · exact w1.elim
end CL

namespace CL
open PySem PySem.Spec PyProof.Rows L2

section
variable {X : Cx} {M : Md} {W : WX} {H0 : Hp} {F0 : Addr → Prop} {O O1 O' Ol : List Nat} {pos : Pos}
/-! ### name = [ .. for .. ] on one line -/
theorem ss_setLc (i : Nat) {x : Str} {elt tg iter : Expr} {ifs : List Expr} {scope : Scope} {own : List (Str × Nat)} {vs : List Nat} {p' pc : Pos} {fi : DEnv → R (List D)} {gi : D → DEnv → R DEnv} {ft : DEnv → R Bool} {fe : DEnv → R D} (hc : X.calm = true) (hN : X.N.Nodup)
    (hi : PI X tg iter (tI M W O fi)) (ok : BlkOk X.N X.env.scope scope own) (hv : own.map (·.2) = vs)
    (hg : ∀ (s : Shared) (H : Hp) (C : Addr) (cl : List (Str × Addr)) (fp : List Addr), PG (X.blk s H scope (compEnvC scope cl C X.env) fp) tg (tGt M O vs gi))
    (ht : ∀ (s : Shared) (H : Hp) (C : Addr) (cl : List (Str × Addr)) (fp : List Addr), PTs (X.blk s H scope (compEnvC scope cl C X.env) fp) ifs (tT M W0 O ft))
    (he : ∀ (s : Shared) (H : Hp) (C : Addr) (cl : List (Str × Addr)) (fp : List Addr), PE (X.blk s H scope (compEnvC scope cl C X.env) fp) elt (tD M W0 O fe))
    (hO : O' = O.filter (· != i) := by rfl) (hx : X.N[i]? = some x := by rfl) (hl : X.env.scope.names.lookup x = some .local := by rfl) (hk : X.env.scope.kind = .function := by rfl) (hln : (p'.line == pc.line) = true := by rfl) (hnm : (scope.names.any fun (n, k) => n == x && (k == .local || k == .cell)) = false := by rfl)
    (hs : ∀ x, foldedSetIterable iter X.env x = pure x := by intro _; rfl) :
    PS X (.Assign [.Name x p'] (.ListComp elt [⟨tg, iter, ifs, 0⟩] scope pc) pos) (tS M W H0 F0 O O' Ol fun δ => inS δ (lcV vs fi gi ft fe δ) fun d => .nxt (δ.set i (some d))) :=
  ps_imp (ps_setLc hc hN hx hl (sw_true hk hl hln hnm) hi ok hg ht he hs) fun E σ H ⟨δ, F, I, w⟩ => by
    rw [hv]
    refine tLc_of (tE.inS I w fun d v H' F' _ g r w' => ?_)
    subst hO
    exact w' _ H' F' ((I.grow g).set r)

/-! ### two fors in a list comprehension -/
theorem wipe_sub {σ σ' : L2.St} {vs0 vs : List Nat} (h : ∀ i ∈ vs0, i ∈ vs) (e : wipe σ' vs0 = wipe σ vs0) : wipe σ' vs = wipe σ vs := by
  have el : σ'.length = σ.length := by have := congrArg List.length e; rwa [wipe_length, wipe_length] at this
  apply List.ext_getElem?
  intro i
  by_cases hi : i ∈ vs
  · rw [wipe_in hi, wipe_in hi, el]
  · have h0 : i ∉ vs0 := fun z => hi (h i z)
    have := congrArg (·[i]?) e
    simp only [wipe_out h0] at this
    rw [wipe_out hi, wipe_out hi, this]
theorem sg_more {tg : Expr} {vs0 vs : List Nat} {gi : D → DEnv → R DEnv} (h : PG X tg (tGt M O vs0 gi)) (hs : ∀ i ∈ vs0, i ∈ vs) (hO : ∀ j ∈ O, j ∉ vs) : PG X tg (tGt M O vs gi) :=
  pg_imp h fun v σ H Q ⟨δ, F, d, I, r, w⟩ => ⟨δ, F, d, I, r, R.wp_mono w (fun δ' _ q σ' I' e o => q σ' I' (wipe_sub hs e) fun j hj => ⟨hO j hj, (o j hj).2⟩) fun _ q => q⟩
theorem EInv.step {F F' : Addr → Prop} {H H' : Hp} {σ : L2.St} {δ : DEnv} (I : EInv M O F H σ δ) (k : Keep F H H') (hF : ∀ a, F a → F' a) (dm : Dom F' H')
    (ho : ∀ i d p, i ∈ O → δ[i]? = some (some d) → σ[i]? = some (some (.ref p)) → ¬ F' p ∧ ∀ o, H p = some o → H' p = some o) : EInv M O F' H' σ δ := by
  refine ⟨I.len, dm, fun i d hi e => ?_, fun i d hi e => ?_, I.sep⟩
  · obtain ⟨v, e1, r⟩ := I.fr i d hi e
    exact ⟨v, e1, r.mono k hF⟩
  · obtain ⟨p, e1, nf, o⟩ := I.own i d hi e
    obtain ⟨n1, n2⟩ := ho i d p hi e e1
    refine ⟨p, e1, n1, ?_⟩
    cases d with
    | lst ds => obtain ⟨vs, h, r⟩ := o; exact ⟨vs, n2 _ h, r.mono k hF⟩
    | dct ds => obtain ⟨es, ep, h, r⟩ := o; exact ⟨es, ep, n2 _ h, r.mono k hF⟩
    | _ => exact o.elim
def lc2Loop (δ : DEnv) (gi : D → DEnv → R DEnv) (ft : DEnv → R Bool) (fi1 : DEnv → R (List D)) (vs1 : List Nat) (gi1 : D → DEnv → R DEnv) (ft1 : DEnv → R Bool) (fe : DEnv → R D) : List D → R (List D)
  | [] => .ok []
  | d :: ds => (gi d δ).bind fun δ1 => (ft δ1).bind fun b => if b then (fi1 δ1).bind fun ds1 => (lcLoop (wipeD δ1 vs1) gi1 ft1 fe ds1).bind fun l => (lc2Loop δ gi ft fi1 vs1 gi1 ft1 fe ds).bind fun r => .ok (l ++ r) else lc2Loop δ gi ft fi1 vs1 gi1 ft1 fe ds
def lc2V (vs : List Nat) (fi : DEnv → R (List D)) (gi : D → DEnv → R DEnv) (ft : DEnv → R Bool) (vs1 : List Nat) (fi1 : DEnv → R (List D)) (gi1 : D → DEnv → R DEnv) (ft1 : DEnv → R Bool) (fe : DEnv → R D) : DEnv → R D := fun δ => (fi δ).bind fun ds =>
  (lc2Loop (wipeD δ vs) gi ft fi1 vs1 gi1 ft1 fe ds).tot.bind fun l => if l.length ≤ lim then .ok (.lst l) else .bad
theorem keep_list {F : Addr → Prop} {H : Hp} {A : Addr} {acc acc' : List V} (nF : ¬ F A) (hA : H A = some (.lst acc)) : Keep F H (upd H A (.lst acc')) := by
  refine ⟨fun a us hF e => ?_, fun a us e => ?_, fun a o u e => ?_⟩
  · have ne : a ≠ A := fun z => nF (by rw [← z]; exact hF)
    rw [upd_ne ne]; exact e
  · rw [upd_ne (ne_of e hA (by intro z; cases z))]; exact e
  · rw [upd_ne (ne_of e hA (by intro z; cases z))]; exact e
theorem keep_trans {F F' : Addr → Prop} {H H' H'' : Hp} (k : Keep F H H') (hf : ∀ a, F a → F' a) (k' : Keep F' H' H'') : Keep F H H'' :=
  ⟨fun a xs h e => k'.1 a xs (hf a h) (k.1 a xs h e), fun a xs e => k'.2.1 a xs (k.2.1 a xs e), fun a o u e => k'.2.2 a o u (k.2.2 a o u e)⟩
theorem grow_list {F1 F4 : Addr → Prop} {H1 H4 : Hp} {A : Addr} {l : HO} (hA : H1 A = none) (gA : Grow F1 H1 F4 H4) (nF : ¬ F4 A) : Grow F1 H1 F4 (upd H4 A l) := by
  refine ⟨fun a o e => ?_, gA.2.1, gA.2.2.1, fun a e => ?_⟩
  · rw [upd_ne (fun z => by subst z; rw [hA] at e; cases e)]; exact gA.1 a o e
  · obtain ⟨o, e1⟩ := gA.2.2.2 a e
    have ne : a ≠ A := fun z => nF (by rw [← z]; exact e)
    exact ⟨o, by rw [upd_ne ne]; exact e1⟩
theorem tLc2_of {vs vs1 : List Nat} {fi fi1 : DEnv → R (List D)} {gi gi1 : D → DEnv → R DEnv} {ft ft1 : DEnv → R Bool} {fe : DEnv → R D} {σ : L2.St} {H : Hp} {Q : VK} (h : tD M W O (lc2V vs fi gi ft vs1 fi1 gi1 ft1 fe) σ H Q) :
    tLc2 (tI M W O fi) (tGt M O vs gi) (tT M W0 O ft) (tI M W0 O fi1) (tGt M O vs1 gi1) (tT M W0 O ft1) (tD M W0 O fe) vs vs1 σ H Q := by
  obtain ⟨δ, F, I, w⟩ := h
  refine ⟨δ, F, I, R.wp_mono (R.wp_bind w) (fun ds eds w1 J H1 F1 g1 dw => ?_) fun _ q => q⟩
  intro A hA
  have HA0 : H A = none := none_of_grow g1 hA
  cases el : (lc2Loop (wipeD δ vs) gi ft fi1 vs1 gi1 ft1 fe ds).tot with
  | exc n => rw [el] at w1; unfold R.tot at el; split at el <;> cases el
  | bad => rw [el] at w1; exact w1.elim
  | ok tot =>
    rw [el] at w1
    have el := R.tot_ok el
    replace w1 : (if tot.length ≤ lim then R.ok (D.lst tot) else R.bad).wp _ _ := w1
    by_cases hl : tot.length ≤ lim
    · rw [if_pos hl] at w1
      have A1 : Grow F1 H1 F1 (upd H1 A (.lst [])) := Grow.newT g1.dom hA
      have nA : ¬ F1 A := fun z => by obtain ⟨o, e⟩ := g1.dom A z; rw [hA] at e; cases e
      let Pv : Nat → Hp → Prop := fun i H' => ∃ rest, lc2Loop (wipeD δ vs) gi ft fi1 vs1 gi1 ft1 fe (ds.drop i) = .ok rest ∧ ∃ F' acc accd, Grow F1 H1 F' H' ∧ ¬ F' A ∧ H' A = some (.lst acc) ∧ RepAll M F' H' acc accd ∧ accd ++ rest = tot
      have pv0 : Pv 0 (upd H1 A (.lst [])) := ⟨tot, by simpa using el, F1, [], [], A1, nA, upd_same, .nil, rfl⟩
      refine ⟨fun i m H => m = ds.length - i ∧ i ≤ ds.length ∧ Pv i H, ⟨ds.length, by simp, Nat.zero_le _, pv0⟩, ?_⟩
      rintro i m H' ⟨rfl, hi, p⟩
      obtain ⟨rest, er, F', acc, accd, gg, nF, hAacc, ra, ea⟩ := p
      by_cases hlt : i < ds.length
      · refine .inr ⟨dw.go i H' hlt gg.keep, Pv (i + 1), fun H' p' => ⟨ds.length - (i + 1), by omega, rfl, hlt, p'⟩, fun x H'' y => ?_⟩
        obtain ⟨d, ed, hH, rx⟩ := dw.yld i H' x H'' hlt gg.keep y
        have g2 : Grow F' H' F' H'' := by
          rcases hH with e | ⟨T, xs, hT, e⟩
          · rw [e]; exact Grow.refl gg.dom
          · rw [e]; exact Grow.newT gg.dom hT
        have gg2 := gg.trans g2
        have rx' : Rep M F' H'' x d := rx.mono ⟨fun _ _ _ e => e, fun _ _ e => e, fun _ _ _ e => e⟩ gg.2.1
        have hdrop : ds.drop i = d :: ds.drop (i + 1) := by
          obtain ⟨hlt, e1⟩ := List.getElem?_eq_some_iff.mp ed
          rw [List.drop_eq_getElem_cons hlt, e1]
        rw [hdrop] at er
        unfold lc2Loop at er
        obtain ⟨δ1, e1, er⟩ := R.bind_ok er
        obtain ⟨b, e2, er⟩ := R.bind_ok er
        have I0 : EInv M O F' H'' (wipe σ vs) (wipeD δ vs) := ((I.grow g1).grow gg2).wiped vs
        refine ⟨wipeD δ vs, F', d, I0, rx', ?_⟩
        rw [e1]
        intro σ2 I2 hw hOv
        refine ⟨by rw [hw]; exact wipe_wipe, δ1, F', I2, ?_⟩
        rw [e2]
        intro H3 F3 g3
        have nF3 : ¬ F3 A := fun z => by
          rcases g3.2.2.1 A z with q | q
          · exact nF q
          · rw [g2.1 A _ hAacc] at q; cases q
        have hA3 := g3.1 A _ (g2.1 A _ hAacc)
        cases b with
        | false =>
          simp only [Bool.false_eq_true, if_false] at er ⊢
          exact ⟨rest, er, F3, acc, accd, gg2.trans g3, nF3, hA3, (ra.grow g2).grow g3, ea⟩
        | true =>
          simp only [if_true] at er ⊢
          obtain ⟨ds1, e3, er⟩ := R.bind_ok er
          obtain ⟨l1, e4, er⟩ := R.bind_ok er
          obtain ⟨r1, e5, er⟩ := R.bind_ok er
          cases er
          refine ⟨δ1, F3, I2.grow g3, ?_⟩
          rw [e3]
          intro J1 H4 F4 g4 dw1
          have hA4 := g4.1 A _ hA3
          have nF4 : ¬ F4 A := fun z => by
            rcases g4.2.2.1 A z with q | q
            · exact nF3 q
            · rw [hA3] at q; cases q
          have I4 : EInv M O F4 H4 σ2 δ1 := (I2.grow g3).grow g4
          have own2 : ∀ j d p, j ∈ O → δ1[j]? = some (some d) → σ2[j]? = some (some (.ref p)) → ∀ F5 H5, Grow F1 H1 F5 H5 → ¬ F5 p ∧ ∃ o, H p = some o := fun j d p hj hd hp F5 H5 g5 => by
            obtain ⟨nv, ev⟩ := hOv j hj
            rw [ev] at hd
            obtain ⟨hd, _⟩ := wipeD_some hd
            obtain ⟨q, eq, nf, oo⟩ := I.own j d hj hd
            have es : σ2[j]? = σ[j]? := by
              have := congrArg (·[j]?) hw
              simpa only [wipe_out nv] using this
            rw [es, eq] at hp
            cases hp
            obtain ⟨o, ho⟩ := oo.there
            refine ⟨fun z => ?_, o, ho⟩
            rcases (g1.trans g5).2.2.1 p z with z | z
            · exact nf z
            · rw [ho] at z; cases z
          let Pw : Nat → Hp → Prop := fun j H' => ∃ rest, lcLoop (wipeD δ1 vs1) gi1 ft1 fe (ds1.drop j) = .ok rest ∧ ∃ F' acc accd, Grow F1 H1 F' H' ∧ (∀ a, F4 a → F' a) ∧ Keep F4 H4 H' ∧ ¬ F' A ∧ H' A = some (.lst acc) ∧ RepAll M F' H' acc accd ∧ accd ++ (rest ++ r1) = tot
          have pw0 : Pw 0 H4 := ⟨l1, by simpa using e4, F4, acc, accd, (gg2.trans g3).trans g4, fun _ z => z, ⟨fun _ _ _ e => e, fun _ _ e => e, fun _ _ _ e => e⟩, nF4, hA4, ((ra.grow g2).grow g3).grow g4, ea⟩
          refine ⟨fun j k H => k = ds1.length - j ∧ j ≤ ds1.length ∧ Pw j H, ⟨ds1.length, by simp, Nat.zero_le _, pw0⟩, ?_⟩
          rintro j k H5 ⟨rfl, hj, p⟩
          obtain ⟨rest, er, F5, acc, accd, g5, up5, k5, nF5, hA5, ra, ea⟩ := p
          by_cases hlt1 : j < ds1.length
          · refine .inr ⟨dw1.go j H5 hlt1 k5, Pw (j + 1), fun H' p' => ⟨ds1.length - (j + 1), by omega, rfl, hlt1, p'⟩, fun x H6 y => ?_⟩
            obtain ⟨d, ed, hH, rx⟩ := dw1.yld j H5 x H6 hlt1 k5 y
            have g6 : Grow F5 H5 F5 H6 := by
              rcases hH with e | ⟨T, xs, hT, e⟩
              · rw [e]; exact Grow.refl g5.dom
              · rw [e]; exact Grow.newT g5.dom hT
            have g56 := g5.trans g6
            have rx' : Rep M F5 H6 x d := rx.mono ⟨fun _ _ _ e => e, fun _ _ e => e, fun _ _ _ e => e⟩ up5
            have hdrop : ds1.drop j = d :: ds1.drop (j + 1) := by
              obtain ⟨hlt, e1⟩ := List.getElem?_eq_some_iff.mp ed
              rw [List.drop_eq_getElem_cons hlt, e1]
            rw [hdrop] at er
            unfold lcLoop at er
            obtain ⟨δ2, e1, er⟩ := R.bind_ok er
            obtain ⟨b, e2, er⟩ := R.bind_ok er
            have k6 : Keep F4 H4 H6 := keep_trans k5 up5 g6.keep
            have I6 : EInv M O F5 H6 σ2 δ1 := I4.step k6 up5 g56.dom fun i d p hi hd hp => by
              obtain ⟨n, o, ho⟩ := own2 i d p hi hd hp F5 H6 g56
              refine ⟨n, fun o' ho' => ?_⟩
              have h4 := g4.1 p _ (g3.1 p _ (gg2.1 p _ (g1.1 p o ho)))
              have h6 := g56.1 p _ (g1.1 p o ho)
              rw [h4] at ho'; cases ho'; exact h6
            refine ⟨wipeD δ1 vs1, F5, d, I6.wiped vs1, rx', ?_⟩
            rw [e1]
            intro σ3 I7 hw1 _
            refine ⟨by rw [hw1]; exact wipe_wipe, δ2, F5, I7, ?_⟩
            rw [e2]
            intro H7 F7 g7
            have nF7 : ¬ F7 A := fun z => by
              rcases g7.2.2.1 A z with q | q
              · exact nF5 q
              · rw [g6.1 A _ hA5] at q; cases q
            have hA7 := g7.1 A _ (g6.1 A _ hA5)
            have g57 := g56.trans g7
            have up7 : ∀ a, F4 a → F7 a := fun a z => g7.2.1 a (up5 a z)
            have k7 : Keep F4 H4 H7 := keep_trans k6 up5 g7.keep
            cases b with
            | false =>
              simp only [Bool.false_eq_true, if_false] at er ⊢
              exact ⟨rest, er, F7, acc, accd, g57, up7, k7, nF7, hA7, (ra.grow g6).grow g7, ea⟩
            | true =>
              simp only [if_true] at er ⊢
              obtain ⟨yv, e8, er⟩ := R.bind_ok er
              obtain ⟨r', e9, er⟩ := R.bind_ok er
              cases er
              refine ⟨δ2, F7, I7.grow g7, ?_⟩
              rw [e8]
              intro v8 H8 F8 g8 r8
              have hA8 := g8.1 A _ hA7
              have nF8 : ¬ F8 A := fun z => by
                rcases g8.2.2.1 A z with q | q
                · exact nF7 q
                · rw [hA7] at q; cases q
              have kk := keep_list (acc' := acc ++ [v8]) nF8 hA8
              have up8 : ∀ a, F4 a → F8 a := fun a z => g8.2.1 a (up7 a z)
              refine ⟨acc, hA8, ?_, r', e9, F8, acc ++ [v8], accd ++ [yv], grow_list hA (g57.trans g8) nF8, up8, keep_trans (keep_trans k7 up7 g8.keep) up8 kk, nF8, upd_same, ?_, ?_⟩
              · have := congrArg List.length ea
                simp at this
                rw [ra.length, lim_eq]; omega
              · exact ((((ra.grow g6).grow g7).grow g8).mono kk fun _ z => z).append (.cons (r8.mono kk fun _ z => z) .nil)
              · rw [List.append_assoc]; exact ea
          · have e : j = ds1.length := by omega
            subst e
            refine .inl ⟨dw1.stop H5 k5, ?_⟩
            rw [List.drop_length] at er
            cases er
            exact ⟨r1, e5, F5, acc, accd, g5, nF5, hA5, ra, ea⟩
      · have e : i = ds.length := by omega
        subst e
        refine .inl ⟨dw.stop H' gg.keep, ?_⟩
        rw [List.drop_length] at er
        cases er
        rw [List.append_nil] at ea
        subst ea
        have up : ∀ a, F' a → (fun a => F' a ∨ a = A) a := fun a z => .inl z
        have kp : Keep F' H' H' := ⟨fun _ _ _ e => e, fun _ _ e => e, fun _ _ _ e => e⟩
        refine w1 (.ref A) H' (fun a => F' a ∨ a = A) ?_ (.lst (.inr rfl) hAacc (ra.mono kp up))
        have gA := g1.trans gg
        refine ⟨gA.1, fun a z => .inl (gA.2.1 a z), fun a z => ?_, fun a z => ?_⟩
        · rcases z with z | z
          · exact gA.2.2.1 a z
          · right; rw [z]; exact HA0
        · rcases z with z | z
          · exact gA.2.2.2 a z
          · rw [z]; exact ⟨_, hAacc⟩
    · rw [if_neg hl] at w1; exact w1.elim
end
end CL

namespace CL
open PySem PySem.Spec PyProof.Rows L2
open PySem.W (dataLt AlikeAll iter_listW cmpIn_lt moved_old argBest_fold dataLt_tuple keyToksAll keyToks alike alikeAll)

section
variable {X : Cx} {M : Md} {W : WX} {H0 : Hp} {F0 : Addr → Prop} {O O1 O' Ol : List Nat} {pos : Pos}
theorem sd_lc2 {elt tg iter tg1 iter1 : Expr} {ifs ifs1 : List Expr} {scope : Scope} {own : List (Str × Nat)} {vs vs1 : List Nat} {fi fi1 : DEnv → R (List D)} {gi gi1 : D → DEnv → R DEnv} {ft ft1 : DEnv → R Bool} {fe : DEnv → R D} (hc : X.calm = true) (hN : X.N.Nodup)
    (hi : PI X tg iter (tI M W O fi)) (ok : BlkOk X.N X.env.scope scope own) (hv : own.map (·.2) = vs) (hv1 : ∀ i ∈ vs1, i ∈ vs)
    (hg : ∀ (s : Shared) (H : Hp) (C : Addr) (cl : List (Str × Addr)) (fp : List Addr), PG (X.blk s H scope (compEnvC scope cl C X.env) fp) tg (tGt M O vs gi))
    (ht : ∀ (s : Shared) (H : Hp) (C : Addr) (cl : List (Str × Addr)) (fp : List Addr), PTs (X.blk s H scope (compEnvC scope cl C X.env) fp) ifs (tT M W0 O ft))
    (hi1 : ∀ (s : Shared) (H : Hp) (C : Addr) (cl : List (Str × Addr)) (fp : List Addr), PI (X.blk s H scope (compEnvC scope cl C X.env) fp) tg1 iter1 (tI M W0 O fi1))
    (hg1 : ∀ (s : Shared) (H : Hp) (C : Addr) (cl : List (Str × Addr)) (fp : List Addr), PG (X.blk s H scope (compEnvC scope cl C X.env) fp) tg1 (tGt M O vs1 gi1))
    (ht1 : ∀ (s : Shared) (H : Hp) (C : Addr) (cl : List (Str × Addr)) (fp : List Addr), PTs (X.blk s H scope (compEnvC scope cl C X.env) fp) ifs1 (tT M W0 O ft1))
    (he : ∀ (s : Shared) (H : Hp) (C : Addr) (cl : List (Str × Addr)) (fp : List Addr), PE (X.blk s H scope (compEnvC scope cl C X.env) fp) elt (tD M W0 O fe))
    (hs : ∀ x, foldedSetIterable iter X.env x = pure x := by intro _; rfl) (hs1 : ∀ env x, foldedSetIterable iter1 env x = pure x := by intro _ _; rfl) :
    PE X (.ListComp elt [⟨tg, iter, ifs, 0⟩, ⟨tg1, iter1, ifs1, 0⟩] scope pos) (tD M W O (lc2V vs fi gi ft vs1 fi1 gi1 ft1 fe)) := by
  subst hv
  exact pe_imp (pe_lc2 hc hN hi ok hv1 hg ht hi1 hg1 ht1 he hs hs1) fun σ H Q h => tLc2_of h
theorem ss_setLc2 (i : Nat) {x : Str} {elt tg iter tg1 iter1 : Expr} {ifs ifs1 : List Expr} {scope : Scope} {own : List (Str × Nat)} {vs vs1 : List Nat} {p' pc : Pos} {fi fi1 : DEnv → R (List D)} {gi gi1 : D → DEnv → R DEnv} {ft ft1 : DEnv → R Bool} {fe : DEnv → R D} (hc : X.calm = true) (hN : X.N.Nodup)
    (hi : PI X tg iter (tI M W O fi)) (ok : BlkOk X.N X.env.scope scope own) (hv : own.map (·.2) = vs) (hv1 : ∀ i ∈ vs1, i ∈ vs)
    (hg : ∀ (s : Shared) (H : Hp) (C : Addr) (cl : List (Str × Addr)) (fp : List Addr), PG (X.blk s H scope (compEnvC scope cl C X.env) fp) tg (tGt M O vs gi))
    (ht : ∀ (s : Shared) (H : Hp) (C : Addr) (cl : List (Str × Addr)) (fp : List Addr), PTs (X.blk s H scope (compEnvC scope cl C X.env) fp) ifs (tT M W0 O ft))
    (hi1 : ∀ (s : Shared) (H : Hp) (C : Addr) (cl : List (Str × Addr)) (fp : List Addr), PI (X.blk s H scope (compEnvC scope cl C X.env) fp) tg1 iter1 (tI M W0 O fi1))
    (hg1 : ∀ (s : Shared) (H : Hp) (C : Addr) (cl : List (Str × Addr)) (fp : List Addr), PG (X.blk s H scope (compEnvC scope cl C X.env) fp) tg1 (tGt M O vs1 gi1))
    (ht1 : ∀ (s : Shared) (H : Hp) (C : Addr) (cl : List (Str × Addr)) (fp : List Addr), PTs (X.blk s H scope (compEnvC scope cl C X.env) fp) ifs1 (tT M W0 O ft1))
    (he : ∀ (s : Shared) (H : Hp) (C : Addr) (cl : List (Str × Addr)) (fp : List Addr), PE (X.blk s H scope (compEnvC scope cl C X.env) fp) elt (tD M W0 O fe))
    (hO : O' = O.filter (· != i) := by rfl) (hx : X.N[i]? = some x := by rfl) (hl : X.env.scope.names.lookup x = some .local := by rfl) (hk : X.env.scope.kind = .function := by rfl) (hln : (p'.line == pc.line) = true := by rfl) (hnm : (scope.names.any fun (n, k) => n == x && (k == .local || k == .cell)) = false := by rfl)
    (hs : ∀ x, foldedSetIterable iter X.env x = pure x := by intro _; rfl) (hs1 : ∀ env x, foldedSetIterable iter1 env x = pure x := by intro _ _; rfl) :
    PS X (.Assign [.Name x p'] (.ListComp elt [⟨tg, iter, ifs, 0⟩, ⟨tg1, iter1, ifs1, 0⟩] scope pc) pos) (tS M W H0 F0 O O' Ol fun δ => inS δ (lc2V vs fi gi ft vs1 fi1 gi1 ft1 fe δ) fun d => .nxt (δ.set i (some d))) := by
  subst hv
  refine ps_imp (ps_setLc2 hc hN hx hl (sw_true hk hl hln hnm) hi ok hv1 hg ht hi1 hg1 ht1 he hs hs1) fun E σ H ⟨δ, F, I, w⟩ => ?_
  refine tLc2_of (tE.inS I w fun d v H' F' _ g r w' => ?_)
  subst hO
  exact w' _ H' F' ((I.grow g).set r)

/-! ### list(range(n)) -/
def listRg (f : DEnv → R D) : DEnv → R D := fun δ => (f δ).bind fun d => match d with
  | .int n => if 0 ≤ n ∧ n ≤ 1000 then .ok (.lst (rngL 0 n.toNat)) else .bad
  | _ => .bad
theorem repAll_rng {F : Addr → Prop} {H : Hp} : ∀ l : List Nat, RepAll M F H (l.map fun (i : Nat) => V.int (0 + (i : Nat))) (l.map fun (i : Nat) => D.int (0 + (i : Nat)))
  | [] => .nil
  | a :: l => .cons (.int _) (repAll_rng l)
theorem sd_listRg {e : Expr} {f : DEnv → R D} {p p2 pos2 : Pos} (hc : X.calm = true) (hml : X.mg "list" = none) (hmr : X.mg "range" = none) (he : PE X e (tD M W O f)) (hg : Gl X "list" := by rfl) (hg2 : Gl X "range" := by rfl)
    (na : starEach [e] X.env = (false, eval e X.env) :: starEach [] X.env := by rfl) (nb : starEach [Expr.Call (.Name "range" p2) [e] [] pos2] X.env = (false, eval (Expr.Call (.Name "range" p2) [e] [] pos2) X.env) :: starEach [] X.env := by rfl) :
    PE X (.Call (.Name "list" p) [.Call (.Name "range" p2) [e] [] pos2] [] pos) (tD M W O (listRg f)) :=
  pe_imp (pe_listRg hc hg hml (prg_1 hg2 hmr he na) nb) fun σ H Q ⟨δ, F, I, w⟩ => by
    refine tE.one I w fun d v H1 F1 ed g1 r w1 => ?_
    cases d with
    | int n =>
      cases r
      by_cases hn : 0 ≤ n ∧ n ≤ 1000
      · replace w1 : (if 0 ≤ n ∧ n ≤ 1000 then R.ok (D.lst (rngL 0 n.toNat)) else R.bad).wp _ _ := w1
        rw [if_pos hn] at w1
        refine ⟨n, rfl, ⟨by omega, by omega, by omega, by omega, by omega⟩, fun q hq => ?_⟩
        have g2 := Grow.newL (o := .lst (rgV 0 n)) g1.dom hq
        refine w1 (.ref q) _ _ (g1.trans g2) (.lst (.inr rfl) upd_same ?_)
        have e : (n - 0).toNat = n.toNat := by omega
        unfold rgV rngL
        rw [e]
        exact repAll_rng _
      · replace w1 : (if 0 ≤ n ∧ n ≤ 1000 then R.ok (D.lst (rngL 0 n.toNat)) else R.bad).wp _ _ := w1
        rw [if_neg hn] at w1; exact w1.elim
    | _ => exact w1.elim

/-! ### a, b, c = x, y, z -/
theorem tA.inA {fs : DEnv → R (List D)} {σ : L2.St} {H : Hp} {δ : DEnv} {F : Addr → Prop} {P : PR} {k : List D → Out} {E : Ends} {Q : List V → Hp → Prop} (I : SInv M H0 F0 O F H σ δ) (w : OutP M W H0 F0 O' Ol E (CL.inA δ (fs δ) k))
    (h : ∀ ds vs H' F', fs δ = .ok ds → Grow F H F' H' → All2 (P F' H') vs ds → OutP M W H0 F0 O' Ol E (k ds) → Q vs H') : tA M W O P fs σ H Q := by
  refine ⟨δ, F, I.e, ?_⟩
  unfold CL.inA at w
  cases ef : fs δ with
  | ok d =>
    rw [ef] at w
    intro v H' F' g r
    exact h d v H' F' ef g r w
  | exc n =>
    rw [ef] at w
    intro H' F' g
    obtain ⟨F'', I''⟩ := (I.grow g).dropAll
    exact w σ H' F'' I''
  | bad => rw [ef] at w; exact w.elim
theorem ss_par3 (i j l : Nat) {x y z : Str} {a b c : Expr} {fs : DEnv → R (List D)} {px py pz pt : Pos} {kt k2 pt2} (hc : X.calm = true) (hN : X.N.Nodup) (ha : PA X [a, b, c] (tA M W O (Rep M) fs)) (hij : i ≠ j := by decide) (hil : i ≠ l := by decide) (hjl : j ≠ l := by decide) (hO : O' = ((O.filter (· != i)).filter (· != j)).filter (· != l) := by rfl)
    (hi : X.N[i]? = some x := by rfl) (hj : X.N[j]? = some y := by rfl) (hl : X.N[l]? = some z := by rfl) (hx : X.env.scope.names.lookup x = some .local := by rfl) (hy : X.env.scope.names.lookup y = some .local := by rfl) (hz : X.env.scope.names.lookup z = some .local := by rfl)
    (hw : swappedStores [.Tuple [.Name x px, .Name y py, .Name z pz] kt pt] (.Tuple [a, b, c] k2 pt2) X.env = pure (some [x, y, z]) := by rfl)
    (hs : swapsWithSole [.Tuple [.Name x px, .Name y py, .Name z pz] kt pt] (.Tuple [a, b, c] k2 pt2) pos.line X.env = pure false := by rfl) :
    PS X (.Assign [.Tuple [.Name x px, .Name y py, .Name z pz] kt pt] (.Tuple [a, b, c] k2 pt2) pos) (tS M W H0 F0 O O' Ol fun δ => inA δ (fs δ) (set3 i j l δ)) := ps_imp (ps_par3 hc hN hi hj hl hij hil hjl hx hy hz ha hw hs) fun E σ H ⟨δ, F, I, w⟩ =>
  tA.inA I w fun ds vs H' F' _ g r w' => by
    subst hO
    unfold set3 at w'
    split at w'
    · cases r with
      | cons r1 r => cases r with
        | cons r2 r => cases r with
          | cons r3 r =>
            cases r
            refine ⟨_, _, _, rfl, ?_⟩
            exact w' _ H' F' ((((I.grow g).set r1).set r2).set r3)
    · exact w'.elim

/-! ### tuple * int -/
def D.mulT : D → D → R D
  | .tup l, .int k => if l ≠ [] ∧ l.length ≤ 1000 ∧ 2 ≤ k ∧ k ≤ 1000 then .ok (.tup (List.replicate k.toNat l).flatten) else .bad
  | _, _ => .bad
theorem repAll_rep {F : Addr → Prop} {H : Hp} {vs : List V} {ds : List D} (r : RepAll M F H vs ds) : ∀ n : Nat, RepAll M F H (List.replicate n vs).flatten (List.replicate n ds).flatten
  | 0 => .nil
  | n + 1 => by simp only [List.replicate_succ, List.flatten_cons]; exact r.append (repAll_rep r n)
theorem od_mulT : OpR X (binaryOp .Mult) (rD M D.mulT) := by
  intro pins s σ H x y v u Q I rx ry ⟨F, a, b, dm, ra, rb, w⟩
  unfold D.mulT at w
  split at w
  · split at w
    · rename_i h
      cases (show Rep M F H _ _ from ra) with
      | tup h1 h2 =>
        cases (show Rep M F H _ _ from rb)
        refine op_repT pins s σ H _ _ v u Q I rx ry ⟨_, _, _, rfl, rfl, SqT.of h1, ?_, h.2.2.1, h.2.2.2, by rw [h2.length]; exact h.2.1, fun p hp => ?_⟩
        · intro e; apply h.1; have := h2.length; rw [e] at this; exact List.length_eq_zero_iff.1 this.symm
        · exact w (.ref p) _ _ (Grow.newT dm hp) (.tup upd_same ((repAll_rep h2 _).grow (Grow.newT dm hp)))
    · exact w.elim
  · exact w.elim

/-! ### min of a row of (int, text) -/
def isIS : D → Bool
  | .tup [.int _, .str _] => true
  | _ => false
def ltIS : D → D → Bool
  | .tup [.int a, .str s], .tup [.int b, .str t] => decide (a < b) || (decide (a = b) && decide (s < t))
  | _, _ => false
def D.min : List D → R D
  | [.lst (x :: xs)] => if (x :: xs).all isIS then .ok (xs.foldl (fun a y => if ltIS y a then y else a) x) else .bad
  | _ => .bad
theorem dataLt_IS (a b : Int) (s t : List Nat) : dataLt (D.tup [.int a, .str s]).py (D.tup [.int b, .str t]).py = ltIS (.tup [.int a, .str s]) (.tup [.int b, .str t]) := by
  simp only [D.py, D.pys]
  rw [dataLt_tuple]
  simp only [keyToksAll, keyToks, List.cons_append, List.nil_append, ltIS]
  rw [lex_self (O := itemOrd)]
  by_cases h : a = b
  · subst h
    rw [lex_self (O := itemOrd), lex_self (O := itemOrd)]
    by_cases h2 : s = t
    · subst h2
      rw [lex_self (O := itemOrd), lex_self (O := itemOrd)]
      simp [PyProof.Rows.lexLt]
    · rw [lex_diff (O := itemOrd) (by simpa using h2)]
      simp [itemLt]
  · rw [lex_diff (O := itemOrd) (by simpa using h)]
    simp [itemLt, h]
theorem isIS_of {d : D} (h : isIS d = true) : ∃ a s, d = .tup [.int a, .str s] := by
  unfold isIS at h
  split at h
  · exact ⟨_, _, rfl⟩
  · cases h
theorem reads_rows {pins : List (Addr × Obj)} {s : Shared} {σ : L2.St} {H : Hp} {F : Addr → Prop} (I : Inv X pins σ H s) : ∀ {xs : List V} {ds : List D} {its : List Value}, RepAll M F H xs ds → Vals xs its → D.plains ds = true → ∃ as, ReadsAll s.heap its (D.pys ds) as
  | _, _, _, .nil, .nil, _ => ⟨_, .nil⟩
  | _, _, _, .cons r rs, .cons v vs, p => by
    simp only [D.plains, Bool.and_eq_true] at p
    obtain ⟨as, h1⟩ := Dp.reads I _ _ _ (r.dp (K := X.K) p.1).1 v
    obtain ⟨bs, h2⟩ := reads_rows I rs vs p.2
    exact ⟨_, .cons h1 h2⟩
theorem all_plain : ∀ {l : List D}, l.all isIS = true → D.plains l = true
  | [], _ => rfl
  | d :: l, h => by
    simp only [List.all_cons, Bool.and_eq_true] at h
    obtain ⟨a, s, rfl⟩ := isIS_of h.1
    simp only [D.plains, D.plain, all_plain h.2, Bool.and_self]
theorem pys_map : ∀ l : List D, D.pys l = l.map D.py
  | [] => rfl
  | d :: l => by simp only [D.pys, List.map_cons, pys_map l]
theorem deps_IS : ∀ {l : List D}, l.all isIS = true → D.deps l ≤ 3
  | [], _ => by simp [D.deps]
  | d :: l, h => by
    simp only [List.all_cons, Bool.and_eq_true] at h
    obtain ⟨a, s, rfl⟩ := isIS_of h.1
    have := deps_IS h.2
    simp [D.deps, D.dep]
    omega
theorem cd_min (hc : X.calm = true) (hu : X.A.units + 64 < cLine) : CallR X (.builtin "min") (rC M D.min) := by
  intro pins s σ H vs us Q I rv ⟨F, ds, dm, r, w⟩
  unfold D.min at w
  split at w
  · obtain ⟨v, rfl, a, xs, rfl, h1, r1⟩ := all2_one r
    split at w
    · rename_i x ds hall
      obtain ⟨its, rvs, p, hz⟩ := I.list (SqL.of h1)
      cases rv with
      | cons rv rv' =>
        cases rv'
        cases rv
        obtain ⟨as, hr⟩ := reads_rows I r1 rvs (all_plain hall)
        have hr' : ReadsAll s.heap its.toArray.toList (D.pys (x :: ds)) as := by simpa using hr
        have hn : its.toArray.size = ds.length + 1 := by have := r1.length; have := rvs.length; simp at *; omega
        have al : AlikeAll (D.pys (x :: ds)) := by
          rw [pys_map]
          refine ⟨fun p hp q hq => ?_, fun p hp => ?_⟩
          · obtain ⟨d1, m1, rfl⟩ := List.mem_map.1 hp
            obtain ⟨d2, m2, rfl⟩ := List.mem_map.1 hq
            obtain ⟨_, _, rfl⟩ := isIS_of (List.all_eq_true.1 hall d1 m1)
            obtain ⟨_, _, rfl⟩ := isIS_of (List.all_eq_true.1 hall d2 m2)
            simp [D.py, D.pys, alike, alikeAll]
          · obtain ⟨d1, m1, rfl⟩ := List.mem_map.1 hp
            obtain ⟨_, _, rfl⟩ := isIS_of (List.all_eq_true.1 hall d1 m1)
            simp [D.py]
        refine call_min_walkH (iter_listW (A := X.A.in1) (I.ok.hd hc) p.isList fun s₂ e W st hfp hw hk => ?_)
        refine ⟨_, _, _, _, _, _, _, s.heap, _, rfl, W, st, hfp, by omega, hw, hk, cmpIn_lt (A := X.A.in1) hr' al (by have := deps_IS hall; show X.A.units + 1 + _ < _; rw [D.deps_py]; omega), fun v s' hP m => ?_⟩
        obtain ⟨h', tk, rfl, hk'⟩ := moved_old e rfl m
        have e1 : its.toArray.size - 1 = ds.length := by omega
        rw [e1] at hP
        have ebt : (fun i j => dataLt ((D.pys (x :: ds)).getD i .none) ((D.pys (x :: ds)).getD j .none)) = (fun i j => (fun y a : D => dataLt y.py a.py) ((x :: ds).getD i .non) ((x :: ds).getD j .non)) := by
          funext i j
          have : ∀ k, (D.pys (x :: ds)).getD k .none = ((x :: ds).getD k .non).py := fun k => by
            rw [pys_map, List.getD_eq_getElem?_getD, List.getD_eq_getElem?_getD, List.getElem?_map]
            cases (x :: ds)[k]? <;> rfl
          rw [this, this]
        rw [ebt] at hP
        obtain ⟨e2, e3⟩ := argBest_fold (fun y a : D => dataLt y.py a.py) D.non x ds ds.length (Nat.le_refl _)
        generalize argBest (fun i j => (fun y a : D => dataLt y.py a.py) ((x :: ds).getD i .non) ((x :: ds).getD j .non)) ds.length = k at *
        rw [List.take_length] at e3
        have ff : ∀ (l : List D) (x : D), isIS x = true → l.all isIS = true → l.foldl (fun a y => if dataLt y.py a.py then y else a) x = l.foldl (fun a y => if ltIS y a then y else a) x := by
          intro l
          induction l with
          | nil => intro x _ _; rfl
          | cons y l ih =>
            intro x hx hl
            simp only [List.all_cons, Bool.and_eq_true] at hl
            simp only [List.foldl_cons]
            obtain ⟨_, _, rfl⟩ := isIS_of hx
            obtain ⟨_, _, rfl⟩ := isIS_of hl.1
            rw [dataLt_IS]
            split
            · exact ih _ hl.1 hl.2
            · exact ih _ hx hl.2
        have hall' := hall
        simp only [List.all_cons, Bool.and_eq_true] at hall'
        rw [ff ds x hall'.1 hall'.2] at e3
        rw [← e3] at w
        have hk1 : k < (x :: ds).length := by simp; omega
        have hgd : (x :: ds)[k]? = some ((x :: ds).getD k .non) := by
          rw [List.getD_eq_getElem?_getD, List.getElem?_eq_getElem hk1]; rfl
        obtain ⟨v1, hv1, rr⟩ := r1.get hgd
        obtain ⟨u1, hu1, ru⟩ := rvs.get hv1
        have hP' : its[k]? = some v := by simpa using hP
        rw [hu1] at hP'
        cases hP'
        exact ⟨v1, H, I.kept (t' := tk) hk', ru, w v1 H F (Grow.refl dm) rr⟩
    · exact w.elim
  · exact w.elim
end
end CL

namespace CL
open PySem PySem.Spec PyProof.Rows L2

/-! ### powers, division by more, the script -/
def D.pow : D → D → R D
  | .int i, .int j => if 0 ≤ j ∧ j ≤ 1000 ∧ i.natAbs < 1000 then .ok (.int (i ^ j.toNat)) else .bad
  | _, _ => .bad
def D.fdivW : D → D → R D
  | .int i, .int j => if 0 < j ∧ wid 18446744073709551615 j = true then .ok (.int (i / j)) else .bad
  | _, _ => .bad
def D.neS (ns : List Int) : D → D → R D
  | .opq 0 [], .lst [] => .ok (.bl !ns.isEmpty)
  | _, _ => .bad
def D.lenS (ns : List Int) : List D → R D
  | [.opq 0 []] => .ok (.int ns.length)
  | _ => .bad
def D.ixS (ns : List Int) : D → D → R D
  | .opq 0 [], .int i => match atI ns i with | some d => .ok (.int d) | none => .bad
  | _, _ => .bad
def tupOfV (f : DEnv → R D) : DEnv → R D := fun δ => (f δ).bind fun d => match d with
  | .lst l => .ok (.tup l)
  | .tup l => .ok (.tup l)
  | _ => .bad
section
variable {X : Cx} {M : Md} {W : WX} {O : List Nat} {pos : Pos} {f : DEnv → R D}
theorem od_pow : OpR X (binaryOp .Pow) (rD M D.pow) := by
  intro pins s σ H x y v u Q I rx ry ⟨F, a, b, dm, ra, rb, w⟩
  unfold D.pow at w
  split at w
  · cases (show Rep M F H x _ from ra)
    cases (show Rep M F H y _ from rb)
    split at w
    · rename_i h
      exact op_pow pins s σ H _ _ v u Q I rx ry ⟨_, _, rfl, rfl, ⟨h.1, by omega, by omega⟩, w _ H F (Grow.refl dm) (.int _)⟩
    · exact w.elim
  · exact w.elim
theorem od_fdivW : OpR X (binaryOp .FloorDiv) (rD M D.fdivW) := by
  intro pins s σ H x y v u Q I rx ry ⟨F, a, b, dm, ra, rb, w⟩
  unfold D.fdivW at w
  split at w
  · cases (show Rep M F H x _ from ra)
    cases (show Rep M F H y _ from rb)
    split at w
    · rename_i h
      exact op_fdivW pins s σ H _ _ v u Q I rx ry ⟨_, _, rfl, rfl, wide_div (b := 64) h.1 (by have := wid_iff.1 h.2; omega) (by decide) (by decide), w _ H F (Grow.refl dm) (.int _)⟩
    · exact w.elim
  · exact w.elim
theorem scr_sq {F : Addr → Prop} {H : Hp} {x : V} (h : Rep M F H x (.opq 0 [])) : ∃ a, x = .ref a ∧ SqL M.K H a (M.ns.map V.int) := by
  cases h with
  | scr h => exact ⟨_, rfl, h.elim (fun ⟨o, e⟩ => .inl (.inr ⟨o, e⟩)) fun e => e H⟩
theorem dpAll_ints {K : PySem.W.Frag} {H : Hp} : ∀ ns : List Int, DpAll K H (ns.map V.int) (ns.map PyData.int)
  | [] => .nil
  | n :: ns => .cons (.int n) (dpAll_ints ns)
theorem canLay_ints : ∀ ns : List Int, PyData.canLayAll0 (ns.map PyData.int) = true
  | [] => by simp [PyData.canLayAll0]
  | n :: ns => by simp [PyData.canLayAll0, PyData.canLay0, canLay_ints ns]
theorem od_neS (hK : X.K = M.K) (hu : X.A.units + 64 < cLine) : OpR X (compareOp .NotEq) (rD M (D.neS M.ns)) := by
  intro pins s σ H x y v u Q I rx ry ⟨F, a, b, dm, ra, rb, w⟩
  unfold D.neS at w
  split at w
  · obtain ⟨p, rfl, hq⟩ := scr_sq (show Rep M F H x _ from ra)
    obtain ⟨db, cb⟩ := rb.dp (K := X.K) (show D.plain (.lst []) = true from rfl)
    rw [← hK] at hq
    obtain ⟨as, r1⟩ := Dp.reads I _ _ v (.lst hq (dpAll_ints M.ns)) rx
    obtain ⟨bs, r2⟩ := Dp.reads I _ y u db ry
    refine SeqAt.compareNe_reads r1 r2 (by simpa [PyData.canLay0] using canLay_ints M.ns) cb (by simp [D.py, D.pys, PyData.depth, PyData.depthAll]; omega) ⟨.bl _, H, I, rfl, ?_⟩
    have e : PyData.eqv (.list (M.ns.map PyData.int)) (D.lst []).py = M.ns.isEmpty := by
      cases M.ns <;> simp [D.py, D.pys, PyData.eqv, PyData.eqvAll]
    rw [e]
    exact w _ H F (Grow.refl dm) (.bl _)
  · exact w.elim
theorem cd_lenS (hK : X.K = M.K) : CallR X (.builtin "len") (rC M (D.lenS M.ns)) := by
  intro pins s σ H vs us Q I rv ⟨F, ds, dm, r, w⟩
  unfold D.lenS at w
  split at w
  · obtain ⟨v, rfl, r1⟩ := all2_one r
    obtain ⟨p, rfl, hq⟩ := scr_sq (show Rep M F H v _ from r1)
    rw [← hK] at hq
    refine call_len_seq pins s σ H _ us Q I rv ⟨p, _, rfl, .inl hq, ?_⟩
    rw [List.length_map]
    exact w _ H F (Grow.refl dm) (.int _)
  · exact w.elim
theorem atI_map {ns : List Int} {i z : Int} (h : atI ns i = some z) : atI (ns.map V.int) i = some (V.int z) := by
  unfold atI at h ⊢
  simp only [List.length_map, List.getElem?_map] at h ⊢
  cases e : ixN ns.length i with
  | none => rw [e] at h; cases h
  | some j => rw [e] at h; simp only [Option.bind_some] at h ⊢; rw [h]; rfl
theorem od_ixS (hK : X.K = M.K) : IxR X (rD M (D.ixS M.ns)) := by
  intro value slice pins s σ H x y v u Q I rx ry ⟨F, a, b, dm, ra, rb, w⟩ hs
  unfold D.ixS at w
  split at w
  · obtain ⟨p, rfl, hq⟩ := scr_sq (show Rep M F H x _ from ra)
    cases (show Rep M F H y _ from rb)
    rw [← hK] at hq
    split at w
    · exact ix_list value slice pins s σ H _ _ v u Q I rx ry ⟨p, _, _, _, rfl, rfl, hq, atI_map (by assumption), w _ H F (Grow.refl dm) (.int _)⟩ hs
    · exact w.elim
  · exact w.elim
theorem sd_tupleOf {a : Expr} {p : Pos} (hm : X.mg "tuple" = none) (ha : PE X a (tB M W O f)) (hg : Gl X "tuple" := by rfl) (na : starEach [a] X.env = (false, eval a X.env) :: starEach [] X.env := by rfl) :
    PE X (.Call (.Name "tuple" p) [a] [] pos) (tD M W O (tupOfV f)) := pe_imp (pe_tupleOf hg hm ha na) fun σ H Q ⟨δ, F, I, w⟩ => by
  refine tE.one I w fun d v H1 F1 ed g1 r w1 => ?_
  cases d with
  | lst l =>
    obtain ⟨p, vs, rfl, h1, r1⟩ := r
    refine .inl ⟨p, vs, rfl, SqL.of h1, fun q hq => ?_⟩
    have g2 := Grow.newT (o := .tup vs) g1.dom hq
    exact w1 (.ref q) _ _ (g1.trans g2) (.tup upd_same (r1.grow g2))
  | tup l =>
    cases (show Rep M F1 H1 v _ from r) with
    | tup h1 h2 => exact .inr ⟨_, _, rfl, SqT.of h1, w1 _ H1 F1 g1 (.tup h1 h2)⟩
  | _ => exact w1.elim
end
end CL

namespace CL
open PySem PySem.Spec PyProof.Rows L2

/-! ### names for what statements compute -/
def exprS (f : DEnv → R D) : DEnv → Out := fun δ => inS δ (f δ) fun _ => .nxt δ
def retS (f : DEnv → R D) : DEnv → Out := fun δ => inS δ (f δ) fun d => .ret d
def retN : DEnv → Out := fun _ => .ret .non
def setS (i : Nat) (f : DEnv → R D) : DEnv → Out := fun δ => inS δ (f δ) fun d => .nxt (δ.set i (some d))
def ifS (ft : DEnv → R Bool) (g1 g2 : DEnv → Out) : DEnv → Out := fun δ => inT δ (ft δ) fun c => if c then g1 δ else g2 δ
def par2S (i j : Nat) (fs : DEnv → R (List D)) : DEnv → Out := fun δ => inA δ (fs δ) (set2 i j δ)
def par3S (i j l : Nat) (fs : DEnv → R (List D)) : DEnv → Out := fun δ => inA δ (fs δ) (set3 i j l δ)
def unp2S (i j : Nat) (f : DEnv → R D) : DEnv → Out := fun δ => inS δ (f δ) fun d => match d with | .tup l => set2 i j δ l | _ => .bad
/-- an own error class, at the code n -/
structure XF (M : Md) (x : Str) (n : Nat) : Prop where
  g : M.mg x = some (.ref (M.xc n))
  k : PySem.W.keepIn M.K (.ref (M.xc n)) = true
  e : PySem.W.excIn M.K (M.xc n) [.type "ValueError", .type "Exception", .type "BaseException", .type "object"] "ValueError.__new__" = true
  b : PySem.W.subIn M.K (.ref (M.xc n)) (.type "BaseException") = some true
  t : PySem.W.typeIn M.K (.ref (M.xc n)) = some (.type "type")
section
variable {X : Cx} {M : Md} {W : WX} {H0 : Hp} {F0 : Addr → Prop} {O O' Ol : List Nat} {pos : Pos}
theorem ss_raiseX (n : Nat) {x m : Str} {j : Nat} {p p2 pos' : Pos} (hM : On X M) (hc : X.calm = true) (tk : Takes X W) (h : XF M x n) (hg : Gl X x := by rfl) (hdb : (x == ("__debug__" : Str)) = false := by decide) :
    PS X (.Raise (some (.Call (.Name x p) [.Constant (.str m) j p2] [] pos)) none pos') (tS M W H0 F0 O O' Ol (Out.exc n)) :=
  ss_raise n hc tk rfl PySem.F.excBase_ValueError (by rw [hM.K]; exact h.e) (by rw [hM.mg]; exact h.g) (by rw [hM.K]; exact h.k) (raises_own (by rw [hM.K]; exact h.b) (by rw [hM.K]; exact h.t)) hg hdb
end
end CL

namespace CL
open PySem PySem.Spec PyProof.Rows L2

/-! ### the end -/
structure DefAt (K : PySem.W.Frag) (x : Str) (st : Stmt) : Prop where
  ex : ∃ (fa : Addr) (fd : FuncData), PySem.W.nsIn K mainGlobals x = some (some (.ref fa)) ∧ Fun K x x st fa fd
theorem defAt_mk {K : PySem.W.Frag} {x : Str} {st : Stmt} {f : Addr} {oc : Value} {od an : Option Addr} {osl : Array (Option Value)} {kV doc pm cdv ct : Value} (a : PySem.W.nsIn K mainGlobals x = some (some (.ref f)))
    (l : K.lookup f = some ⟨oc, od, .func (PySem.W.fnOf x x (defArgs st) (defBody st) (defScope st) .none kV doc pm an cdv ct), osl⟩) (c : PySem.W.codeIn K cdv x = true) (k : PySem.W.keepIn K (.ref f) = true) : DefAt K x st := ⟨f, _, a, fun_mk l c k⟩
structure ClsAt (K : PySem.W.Frag) (x : Str) : Prop where
  ex : ∃ C : Addr, PySem.W.nsIn K mainGlobals x = some (some (.ref C)) ∧ PySem.W.keepIn K (.ref C) = true ∧ PySem.W.excIn K C [.type "ValueError", .type "Exception", .type "BaseException", .type "object"] "ValueError.__new__" = true ∧
    PySem.W.subIn K (.ref C) (.type "BaseException") = some true ∧ PySem.W.typeIn K (.ref C) = some (.type "type")
theorem clsAt_mk {K : PySem.W.Frag} {x : Str} {C : Addr} (a : PySem.W.nsIn K mainGlobals x = some (some (.ref C))) (k : PySem.W.keepIn K (.ref C) = true) (e : PySem.W.excIn K C [.type "ValueError", .type "Exception", .type "BaseException", .type "object"] "ValueError.__new__" = true)
    (b : PySem.W.subIn K (.ref C) (.type "BaseException") = some true) (t : PySem.W.typeIn K (.ref C) = some (.type "type")) : ClsAt K x := ⟨C, a, k, e, b, t⟩
structure GlAt (K : PySem.W.Frag) (x : Str) (p : Value → Prop) : Prop where
  ex : ∃ v, PySem.W.nsIn K mainGlobals x = some (some v) ∧ p v
theorem gl_int {K : PySem.W.Frag} {x : Str} (i : Int) {t : Tok} (a : PySem.W.nsIn K mainGlobals x = some (some (.int i t))) : ∃ t, PySem.W.nsIn K mainGlobals x = some (some (.int i t)) := ⟨t, a⟩
theorem gl_str {K : PySem.W.Frag} {x : Str} (i : Str) {t : Tok} (a : PySem.W.nsIn K mainGlobals x = some (some (.str i t))) : ∃ t, PySem.W.nsIn K mainGlobals x = some (some (.str i t)) := ⟨t, a⟩
def mkM (w : World) (K : PySem.W.Frag) (mg : Str → Option Value) (cs : List Addr) (ns : List Int) : Md := ⟨K, mg, ns, fun n => cs.getD n 0, fun _ => False, fun k => k.hash w⟩
theorem fn_ok {M : Md} {P : Program} {w : World} {base : Heap} {x qual : Str} {st : Stmt} {fa : Addr} {fd : FuncData} {N ps : List Str} {k : Nat} {g : DEnv → Out} {O' : List Nat} (F : Fun M.K x qual st fa fd) (S : FnScope N ps (defScope st))
    (body : ∀ (cdv : Value) (A : Around) (outer : List Env) (s : Shared) (H : Hp) (E : XK), Room k (A.deeper (envOfC qual (defScope st) s.heap.objs.size fa cdv)) → ∀ (F0 : Addr → Prop),
      PSs (cxOf (L2.CX P w) P w M.K M.mg base N qual (defScope st) fa cdv A outer s H E) (defBody st) (tS M (fun cls d _ H => E cls d H) H F0 [] O' [] g)) :
    FnOk P w M.K M.mg base (L2.CX P w) (k + 1) fa fd ps (spD M (runF ps.length N.length g)) := by
  refine F.okX S (fun vs H Q E ⟨F, ds, _, r, w⟩ => ?_) fun cdv A outer s H vs Q E hr ⟨F1, ds, dm, r, w⟩ => ?_
  · unfold runF at w
    split at w
    · rename_i h; rw [r.length]; exact h
    · exact w.elim
  · unfold runF at w
    split at w
    · refine ⟨_, body cdv A outer s H E hr F1, startD N.length ds, F1, ⟨einv_start dm r, fun _ _ e => e, fun _ e => e, fun _ e => .inl e, fun i d p h => (nomatch h)⟩, ?_⟩
      cases eo : g (startD N.length ds) with
      | nxt δ' => rw [eo] at w; exact fun σ' H' F' I => w .non H' F' I.g0 .non
      | ret d => rw [eo] at w; exact w
      | brk δ' => rw [eo] at w; exact w.elim
      | cnt δ' => rw [eo] at w; exact w.elim
      | exc n δ' => rw [eo] at w; exact fun σ' H' F' I => w H' F' I.g0
      | bad => rw [eo] at w; exact w.elim
    · exact w.elim
def spLaw (K : PySem.W.Frag) : Sp := fun vs H Q _ => ∃ (a : Addr) (ns : List Int), vs = [.ref a] ∧ Only H ∧ SqL K H a (ns.map V.int) ∧ ns.length ≤ 63 ∧ ∀ H', Q (.bl true) H'
theorem law_ok {P : Program} {w : World} {K : PySem.W.Frag} {mg : Str → Option Value} {base : Heap} {k : Nat} {fa : Addr} {fd : FuncData} {x : Str} {cs : List Addr} {m : List Int → List D → R D}
    (F : ∀ ns, FnOk P w K mg base (L2.CX P w) k fa fd [x] (spD (mkM w K mg cs ns) (m ns))) (hm : ∀ ns, ns.length ≤ 63 → m ns [.opq 0 []] = .ok (.bl true)) : FnOk P w K mg base (L2.CX P w) k fa fd [x] (spLaw K) := by
  have sp : ∀ vs H Q E, spLaw K vs H Q E → ∃ ns, spD (mkM w K mg cs ns) (m ns) vs H Q E := fun vs H Q E ⟨a, ns, ev, hO, hS, hl, q⟩ => by
    subst ev
    refine ⟨ns, fun _ => False, [.opq 0 []], fun _ z => z.elim, .cons (.scr ?_) .nil, ?_⟩
    · rcases hS with (e | e) | e
      · rcases hO a with z | ⟨o, xs, z⟩
        · rw [e] at z; cases z
        · rw [e] at z; cases z
      · exact .inl e
      · exact .inr fun H' => .inr e
    · rw [hm ns hl]
      intro v H' F' g r
      cases r
      exact q H'
  refine ⟨fun vs H Q E q => ?_, fun A outer s H args us vs Q E hr he hb hv q => ?_⟩
  · obtain ⟨ns, z⟩ := sp vs H Q E q
    exact (F ns).len vs H Q E z
  · obtain ⟨ns, z⟩ := sp vs H Q E q
    exact (F ns).run A outer s H args us vs Q E hr he hb hv z
theorem walk_cl {l : PySem.W.OpenLaw} {k : Nat} {q : Program} {loose : List Str} {XP : (Str → Option Value) → Heap → Prop} {YP : World → Heap → Prop} {d : DefRec} {K : Params → PySem.W.Frag} (hn : l.most = some 63) (hdf : d.params.defaults = []) (hr : Room k callerA)
    (hY : ∀ (w : World) (h : Heap), YP w h → (K w.params).In h)
    (F : ∀ (w : World) (mg : Str → Option Value) (fa : Addr) (h : Heap), (K w.params).In h → h.Ns mainGlobals mg → mg d.name = some (.ref fa) →
      ∃ fd : FuncData, (∀ (s : Shared) (u : Value), BindsTo s fd ⟨[u], []⟩ [("script", u)]) ∧ ∀ base : Heap, (K w.params).In base → base.Ns mainGlobals mg → FnOk l.prog w (K w.params) mg base (L2.CX l.prog w) k fa fd ["script"] (spLaw (K w.params))) :
    PySem.W.WalkO q loose XP YP l.row.toRowW d [] (fun f vs => PySem.call f vs) :=
  L2.walk_of (n := 63) (k := k) (x := "script") (CX := fun w => L2.CX l.prog w) (sp := fun w => spLaw (K w.params)) hn (by decide) hdf hr hY F (fun _ _ a ns hl hO hS => ⟨a, ns, rfl, hO, hS, hl, fun _ => rfl⟩)
    fun _ _ _ _ _ z => by obtain ⟨_, _, _, _, _, _, _, _, _, _, _, _, z⟩ := z; exact z
end CL

namespace CL
open L2

/-! ### plain facts of what is computed -/
theorem lcLoop_gen {α β : Type} {δ : DEnv} {gi : D → DEnv → R DEnv} {ft : DEnv → R Bool} {fe : DEnv → R D} {f : α → D} {g : β → D} {p : α → Bool} {e : α → β} {δ' : α → DEnv} : ∀ {xs : List α},
    (∀ x ∈ xs, gi (f x) δ = .ok (δ' x) ∧ ft (δ' x) = .ok (p x) ∧ (p x = true → fe (δ' x) = .ok (g (e x)))) → lcLoop δ gi ft fe (xs.map f) = .ok (((xs.filter p).map e).map g)
  | [], _ => rfl
  | x :: xs, h => by
    obtain ⟨h1, h2, h3⟩ := h x (by simp)
    have ih := lcLoop_gen (xs := xs) (δ := δ) (gi := gi) (ft := ft) (fe := fe) (f := f) (g := g) (p := p) (e := e) (δ' := δ') fun z hz => h z (by simp [hz])
    simp only [List.map_cons, lcLoop, h1, R.ok_bind, h2]
    cases hp : p x with
    | false => simp only [Bool.false_eq_true, if_false, ih, List.filter_cons, hp]
    | true => simp only [if_true, h3 hp, R.ok_bind, ih, List.filter_cons, hp, List.map_cons]
theorem lcV_gen {α β : Type} {vs : List Nat} {δ : DEnv} {fi : DEnv → R (List D)} {gi : D → DEnv → R DEnv} {ft : DEnv → R Bool} {fe : DEnv → R D} {f : α → D} {xs : List α} (g : β → D) (p : α → Bool) (e : α → β) (δ' : α → DEnv) (hfi : fi δ = .ok (xs.map f)) (hl : xs.length ≤ 16777216)
    (h : ∀ x ∈ xs, gi (f x) (wipeD δ vs) = .ok (δ' x) ∧ ft (δ' x) = .ok (p x) ∧ (p x = true → fe (δ' x) = .ok (g (e x)))) : lcV vs fi gi ft fe δ = .ok (.lst (((xs.filter p).map e).map g)) := by
  unfold lcV
  rw [hfi, R.ok_bind, if_pos (by simpa [lim] using hl), lcLoop_gen h]
  rfl
theorem lcV_put {α β : Type} {i : Nat} {δ : DEnv} {fi : DEnv → R (List D)} {ft : DEnv → R Bool} {fe : DEnv → R D} {f : α → D} {xs : List α} (g : β → D) (p : α → Bool) (e : α → β) (hfi : fi δ = .ok (xs.map f)) (hl : xs.length ≤ 16777216)
    (h : ∀ x ∈ xs, ft (δ.set i (some (f x))) = .ok (p x) ∧ (p x = true → fe (δ.set i (some (f x))) = .ok (g (e x)))) : lcV [i] fi (put i) ft fe δ = .ok (.lst (((xs.filter p).map e).map g)) :=
  lcV_gen g p e (fun x => δ.set i (some (f x))) hfi hl fun x hx => ⟨by simp [put, wipeD, List.set_set], h x hx⟩
/-- no test -/
theorem lcV_all {α β : Type} {i : Nat} {δ : DEnv} {fi : DEnv → R (List D)} {fe : DEnv → R D} {f : α → D} {xs : List α} (g : β → D) (e : α → β) (hfi : fi δ = .ok (xs.map f)) (hl : xs.length ≤ 16777216)
    (h : ∀ x ∈ xs, fe (δ.set i (some (f x))) = .ok (g (e x))) : lcV [i] fi (put i) yesT fe δ = .ok (.lst ((xs.map e).map g)) := by
  have := lcV_put (fi := fi) (ft := yesT) (fe := fe) (i := i) (δ := δ) g (fun _ => true) e hfi hl fun x hx => ⟨rfl, fun _ => h x hx⟩
  rw [this, List.filter_eq_self.2 (fun _ _ => rfl)]
theorem lc2Loop_gen {α β γ : Type} {δ : DEnv} {gi gi1 : D → DEnv → R DEnv} {ft1 : DEnv → R Bool} {fi1 : DEnv → R (List D)} {vs1 : List Nat} {fe : DEnv → R D} {f : α → D} {g : γ → D} {f1 : β → D} {ys : List β} {p : α → β → Bool} {e : α → β → γ} {δ' : α → DEnv} {δ'' : α → β → DEnv} : ∀ {xs : List α},
    (∀ x ∈ xs, gi (f x) δ = .ok (δ' x) ∧ fi1 (δ' x) = .ok (ys.map f1) ∧ ∀ y ∈ ys, gi1 (f1 y) (wipeD (δ' x) vs1) = .ok (δ'' x y) ∧ ft1 (δ'' x y) = .ok (p x y) ∧ (p x y = true → fe (δ'' x y) = .ok (g (e x y)))) →
    lc2Loop δ gi yesT fi1 vs1 gi1 ft1 fe (xs.map f) = .ok ((xs.flatMap fun x => (ys.filter (p x)).map (e x)).map g)
  | [], _ => rfl
  | x :: xs, h => by
    obtain ⟨h1, h2, h3⟩ := h x (by simp)
    have ih := lc2Loop_gen (xs := xs) (δ := δ) (gi := gi) (gi1 := gi1) (ft1 := ft1) (fi1 := fi1) (vs1 := vs1) (fe := fe) (f := f) (f1 := f1) (g := g) (p := p) (e := e) (δ' := δ') (δ'' := δ'') fun z hz => h z (by simp [hz])
    simp only [List.map_cons, lc2Loop, h1, R.ok_bind, yesT, if_true, h2]
    rw [lcLoop_gen (δ' := δ'' x) (p := p x) (e := e x) (g := g) h3, R.ok_bind]
    rw [ih]
    simp [List.flatMap_cons]
theorem allBl_mapf {α : Type} (f : α → Bool) (l : List α) : allBl (l.map fun x => D.bl (f x)) = some (l.map f) := by
  induction l with
  | nil => rfl
  | cons a l ih => simp [allBl, ih]
theorem joinL_nil : ∀ ss : List (List Nat), TL.joinL [] ss = ss.flatten
  | [] => rfl
  | [p] => by simp [TL.joinL]
  | p :: q :: r => by rw [TL.joinL, joinL_nil (q :: r)]; simp
/-! sorted signs -/
def insN (x : Nat) : List Nat → List Nat
  | [] => [x]
  | y :: r => if x ≤ y then x :: y :: r else y :: insN x r
def srt : List Nat → List Nat
  | [] => []
  | x :: r => insN x (srt r)
theorem ins_sign (x : Nat) : ∀ l : List Nat, ins [x] (l.map fun c => [c]) = (insN x l).map fun c => [c]
  | [] => rfl
  | y :: r => by
    have e : leL [x] [y] = decide (x ≤ y) := by
      simp only [leL, PySem.Spec.ltCps]
      by_cases h : x ≤ y
      · simp [h]; try omega
      · simp [h]; try omega
    simp only [List.map_cons, ins, insN, e]
    by_cases h : x ≤ y
    · simp [h]
    · simp [h, ins_sign x r]
theorem isort_signs : ∀ l : List Nat, isort (l.map fun c => [c]) = (srt l).map fun c => [c]
  | [] => rfl
  | x :: r => by simp only [List.map_cons, isort, srt, isort_signs r, ins_sign]
theorem insN_perm (x : Nat) : ∀ l : List Nat, (insN x l).Perm (x :: l)
  | [] => .refl _
  | y :: r => by
    unfold insN
    split
    · exact .refl _
    · exact (List.Perm.cons y (insN_perm x r)).trans (List.Perm.swap x y r)
theorem srt_perm : ∀ l : List Nat, (srt l).Perm l
  | [] => .refl _
  | x :: r => (insN_perm x (srt r)).trans (List.Perm.cons x (srt_perm r))
theorem insN_sorted (x : Nat) : ∀ {l : List Nat}, l.Pairwise (· ≤ ·) → (insN x l).Pairwise (· ≤ ·)
  | [], _ => by simp [insN]
  | y :: r, h => by
    obtain ⟨h1, h2⟩ := List.pairwise_cons.1 h
    unfold insN
    split
    · rename_i hx
      exact List.pairwise_cons.2 ⟨fun z hz => by rcases List.mem_cons.1 hz with e | e; · subst e; exact hx
                                                 · exact Nat.le_trans hx (h1 z e), h⟩
    · rename_i hx
      refine List.pairwise_cons.2 ⟨fun z hz => ?_, insN_sorted x h2⟩
      rcases List.mem_cons.1 ((insN_perm x r).mem_iff.1 hz) with e | e
      · subst e; omega
      · exact h1 z e
theorem srt_sorted : ∀ l : List Nat, (srt l).Pairwise (· ≤ ·)
  | [] => .nil
  | x :: r => insN_sorted x (srt_sorted r)
theorem srt_congr {a b : List Nat} (h : a.Perm b) : srt a = srt b :=
  List.Perm.eq_of_pairwise (fun x y _ _ h1 h2 => Nat.le_antisymm h1 h2) (srt_sorted a) (srt_sorted b) ((srt_perm a).trans (h.trans (srt_perm b).symm))
theorem flat_sign (l : List Nat) : (l.map fun c => [c]).flatten = l := by
  induction l with
  | nil => rfl
  | cons a l ih => simp [ih]
theorem stepD_eq : ∀ (l acc : List Nat), (acc ++ l).Nodup → l.foldl (fun acc c => if acc.contains c then acc else acc ++ [c]) acc = acc ++ l
  | [], acc, _ => by simp
  | c :: l, acc, h => by
    have hc : acc.contains c = false := by
      have := (List.nodup_append.1 h).2.2
      simp only [List.contains_eq_mem, decide_eq_false_iff_not]
      intro hm
      exact this c hm c (by simp) rfl
    simp only [List.foldl_cons, hc, Bool.false_eq_true, if_false]
    rw [stepD_eq l (acc ++ [c]) (by simpa using h)]
    simp
theorem ddup_nodup {l : List Nat} (h : l.Nodup) : ddup l = l := by
  have := stepD_eq l [] (by simpa using h)
  simpa [ddup] using this
/-! cuts -/
theorem cut_from {α : Type} (l : List α) (k : Nat) : cutL l (some (k : Int)) none = l.drop k := by
  unfold cutL
  simp only [HT.sIx]
  rw [if_neg (by omega), Int.toNat_natCast]
  by_cases h : k ≤ l.length
  · rw [Nat.min_eq_left h, List.take_of_length_le (by simp)]
  · rw [Nat.min_eq_right (by omega), List.drop_eq_nil_of_le (by omega), List.drop_eq_nil_of_le (by omega)]
    simp
theorem cut_to {α : Type} (l : List α) (k : Nat) : cutL l none (some (k : Int)) = l.take k := by
  unfold cutL
  simp only [HT.sIx]
  rw [if_neg (by omega), Int.toNat_natCast]
  simp
theorem cut_last {α : Type} (l : List α) : cutL l none (some (-1)) = l.dropLast := by
  unfold cutL
  simp only [HT.sIx]
  rw [if_pos (by omega)]
  simp only [List.drop_zero, Nat.sub_zero]
  rw [List.dropLast_eq_take]
  congr 1
  omega
theorem atI_nat {α : Type} (l : List α) (k : Nat) : atI l (k : Int) = l[k]? := by
  unfold atI ixN
  by_cases h : k < l.length
  · have h1 : ((k : Int) < (l.length : Int)) := by omega
    simp [h1, h]
  · have h1 : ¬ ((k : Int) < (l.length : Int)) := by omega
    simp [h1, List.getElem?_eq_none (Nat.le_of_not_lt h)]
theorem atI_last {α : Type} (l : List α) (h : l ≠ []) : atI l (-1) = l.getLast? := by
  have hp : 0 < l.length := List.length_pos_iff.2 h
  unfold atI ixN
  have e : ¬ (0 ≤ (-1 : Int)) := by omega
  simp only [e, if_false, List.getLast?_eq_getElem?]
  first
    | (rw [if_pos (by omega)]; simp; congr 1; omega)
    | simp
end CL

namespace CL
open L2
/-! ### simp's rules for what is computed -/
def andK : D → R D → R D
  | .bl b, x => if b then x else .ok (.bl false)
  | _, _ => .bad
def orK : D → R D → R D
  | .bl b, x => if b then .ok (.bl true) else x
  | _, _ => .bad
def notK : D → R D
  | .bl b => .ok (.bl !b)
  | _ => .bad
def chK (x : R D) (k : R D) : R D := match x with
  | .ok (.bl b) => if b then k else .ok (.bl false)
  | _ => .bad
def okK : R D → R D
  | .ok d => .ok d
  | _ => .bad
section
variable {f g h : DEnv → R D} {fs : DEnv → R (List D)} {ft fu : DEnv → R Bool} {δ : DEnv} {a b : Out}
@[simp] theorem ev_run (k n : Nat) (g : DEnv → Out) (ds : List D) (hk : ds.length = k) : runF k n g ds = outD (g (startD n ds)) := by unfold runF; rw [if_pos hk]
@[simp] theorem ev_start (n : Nat) (ds : List D) : startD n ds = ds.map some ++ List.replicate (n - ds.length) none := id rfl
@[simp] theorem ev_outR (d : D) : outD (.ret d) = .ok d := id rfl
@[simp] theorem ev_outN (d : DEnv) : outD (.nxt d) = .ok .non := id rfl
@[simp] theorem ev_outE (n : Nat) (d : DEnv) : outD (.exc n d) = .exc n := id rfl
@[simp] theorem ev_seq (g1 g2 : DEnv → Out) : seqS g1 g2 δ = match g1 δ with | .nxt δ' => g2 δ' | o => o := id rfl
@[simp] theorem ev_ret : retS f δ = inS δ (f δ) fun d => .ret d := id rfl
@[simp] theorem ev_retN : retN δ = .ret .non := id rfl
@[simp] theorem ev_expr : exprS f δ = inS δ (f δ) fun _ => .nxt δ := id rfl
@[simp] theorem ev_set (i : Nat) : setS i f δ = inS δ (f δ) fun d => .nxt (δ.set i (some d)) := id rfl
@[simp] theorem ev_ifS (g1 g2 : DEnv → Out) : ifS ft g1 g2 δ = inT δ (ft δ) fun c => if c then g1 δ else g2 δ := id rfl
@[simp] theorem ev_par2 (i j : Nat) : par2S i j fs δ = inA δ (fs δ) (set2 i j δ) := id rfl
@[simp] theorem ev_par3 (i j l : Nat) : par3S i j l fs δ = inA δ (fs δ) (set3 i j l δ) := id rfl
@[simp] theorem ev_unp2 (i j : Nat) : unp2S i j f δ = inS δ (f δ) fun d => match d with | .tup l => set2 i j δ l | _ => .bad := id rfl
@[simp] theorem ev_set2 (i j : Nat) (x y : D) : set2 i j δ [x, y] = .nxt ((δ.set i (some x)).set j (some y)) := id rfl
@[simp] theorem ev_set3 (i j l : Nat) (x y z : D) : set3 i j l δ [x, y, z] = .nxt (((δ.set i (some x)).set j (some y)).set l (some z)) := id rfl
@[simp] theorem ev_inS (d : D) (k : D → Out) : inS δ (.ok d) k = k d := id rfl
@[simp] theorem ev_inSe (n : Nat) (k : D → Out) : inS δ (.exc n) k = .exc n δ := id rfl
@[simp] theorem ev_inT (d : Bool) (k : Bool → Out) : inT δ (.ok d) k = k d := id rfl
@[simp] theorem ev_inA (d : List D) (k : List D → Out) : inA δ (.ok d) k = k d := id rfl
@[simp] theorem ev_get (i : Nat) : getV i δ = match δ[i]? with | some (some d) => .ok d | _ => .bad := id rfl
@[simp] theorem ev_cst (d : D) : cst d δ = .ok d := id rfl
@[simp] theorem ev_bin (op : D → D → R D) : bin op f g δ = (f δ).bind fun x => (g δ).bind fun y => match op x y with | .ok d => .ok d | _ => .bad := id rfl
@[simp] theorem ev_tst : tst f δ = (f δ).bind fun d => match d with | .bl b => .ok b | _ => .bad := id rfl
@[simp] theorem ev_okK (d : D) : okK (.ok d) = .ok d := id rfl
@[simp] theorem ev_chK (b : Bool) (k : R D) : chK (.ok (.bl b)) k = if b then k else .ok (.bl false) := id rfl
@[simp] theorem ev_chn (k k' : D → D → R D) : chn k k' f g h δ = (f δ).bind fun x => (g δ).bind fun y => chK (k x y) ((h δ).bind fun z => okK (k' y z)) := by
  unfold chn
  congr 1
  funext x
  congr 1
  funext y
  cases k x y with
  | ok d =>
    cases d with
    | bl b => cases b <;> rfl
    | _ => rfl
  | _ => rfl
@[simp] theorem ev_andT : andT ft fu δ = (ft δ).bind fun c => if c then fu δ else .ok false := id rfl
@[simp] theorem ev_orT : orT ft fu δ = (ft δ).bind fun c => if c then .ok true else fu δ := id rfl
@[simp] theorem ev_notT : notT ft δ = (ft δ).bind fun c => .ok !c := id rfl
@[simp] theorem ev_ifV (f g : DEnv → R D) : ifV ft f g δ = (ft δ).bind fun b => if b then f δ else g δ := id rfl
@[simp] theorem ev_nilA : nilA δ = .ok [] := id rfl
@[simp] theorem ev_consA : consA f fs δ = (f δ).bind fun d => (fs δ).bind fun ds => .ok (d :: ds) := id rfl
@[simp] theorem ev_lst : lstV fs δ = (fs δ).bind fun ds => if ds.length ≤ 16777216 then .ok (.lst ds) else .bad := id rfl
@[simp] theorem ev_tup : tupV fs δ = (fs δ).bind fun ds => if ds.length ≤ 16777216 then .ok (.tup ds) else .bad := id rfl
@[simp] theorem ev_app (k : List D → R D) : app k fs δ = (fs δ).bind fun ds => match k ds with | .ok d => .ok d | _ => .bad := id rfl
@[simp] theorem ev_call (m : List D → R D) : callV m fs δ = (fs δ).bind m := id rfl
@[simp] theorem ev_isi (T : Ty) : isiV T f δ = (f δ).bind (isiD T) := id rfl
@[simp] theorem ev_neg : negV f δ = (f δ).bind fun d => match d with | .int i => .ok (.int (-i)) | _ => .bad := id rfl
@[simp] theorem ev_meth (T : String) (k : D → List D → R D) : meth T k f fs δ = (f δ).bind fun a => if tyD T a then (fs δ).bind fun ds => (match k a ds with | .ok d => .ok d | _ => .bad) else .bad := id rfl
@[simp] theorem ev_cut (lo hi : DEnv → R (Option Int)) : cutW f lo hi δ = (f δ).bind fun a => (lo δ).bind fun l => (hi δ).bind fun h => match D.cut l h a with | .ok d => .ok d | _ => .bad := id rfl
@[simp] theorem ev_noP : noP δ = .ok none := id rfl
@[simp] theorem ev_inP : inP f δ = (f δ).bind fun d => match d with | .int i => .ok (some i) | _ => .bad := id rfl
@[simp] theorem ev_rev : revS f δ = (f δ).bind fun d => match d with | .str s => .ok (.str s.reverse) | _ => .bad := id rfl
@[simp] theorem ev_lenSet : lenSet f δ = (f δ).bind fun d => match d with | .str s => if s.length ≤ 4000 then .ok (.int (ddup s).length) else .bad | _ => .bad := id rfl
@[simp] theorem ev_listRg : listRg f δ = (f δ).bind fun d => match d with | .int n => if 0 ≤ n ∧ n ≤ 1000 then .ok (.lst (rngL 0 n.toNat)) else .bad | _ => .bad := id rfl
@[simp] theorem ev_tupOf : tupOfV f δ = (f δ).bind fun d => match d with | .lst l => .ok (.tup l) | .tup l => .ok (.tup l) | _ => .bad := id rfl
@[simp] theorem ev_isiD_int (T : Ty) (i : Int) : isiD T (.int i) = .ok (.bl (isi T (.int i))) := id rfl
@[simp] theorem ev_isiD_str (T : Ty) (i : List Nat) : isiD T (.str i) = .ok (.bl (isi T (.str i))) := id rfl
@[simp] theorem ev_isiD_tup (T : Ty) (i : List D) : isiD T (.tup i) = .ok (.bl (isi T (.tup i))) := id rfl
@[simp] theorem ev_isiD_lst (T : Ty) (i : List D) : isiD T (.lst i) = .ok (.bl (isi T (.lst i))) := id rfl
@[simp] theorem ev_isi1 (i : Int) : isi .int (.int i) = true := id rfl
@[simp] theorem ev_isi2 (i : Int) : isi .bool (.int i) = false := id rfl
@[simp] theorem ev_isi3 (s : List Nat) : isi .str (.str s) = true := id rfl
@[simp] theorem ev_isi4 (s : List D) : isi .tuple (.tup s) = true := id rfl
@[simp] theorem ev_isi5 (s : List D) : isi .list (.lst s) = true := id rfl
@[simp] theorem ev_andV (f g : DEnv → R D) : andV f g δ = (f δ).bind fun d => andK d (g δ) := by
  unfold andV
  congr 1
  funext d
  cases d with
  | bl b => cases b <;> rfl
  | _ => rfl
@[simp] theorem ev_andK (b : Bool) (x : R D) : andK (.bl b) x = if b then x else .ok (.bl false) := id rfl
@[simp] theorem ev_orV (f g : DEnv → R D) : orV f g δ = (f δ).bind fun d => orK d (g δ) := by
  unfold orV
  congr 1
  funext d
  cases d with
  | bl b => cases b <;> rfl
  | _ => rfl
@[simp] theorem ev_orK (b : Bool) (x : R D) : orK (.bl b) x = if b then .ok (.bl true) else x := id rfl
@[simp] theorem ev_notV (f : DEnv → R D) : notV f δ = (f δ).bind notK := id rfl
@[simp] theorem ev_notK (b : Bool) : notK (.bl b) = .ok (.bl !b) := id rfl
@[simp] theorem ev_leI (i j : Int) : D.le (.int i) (.int j) = .ok (.bl (decide (i ≤ j))) := id rfl
@[simp] theorem ev_ltI (i j : Int) : D.lt (.int i) (.int j) = .ok (.bl (decide (i < j))) := id rfl
@[simp] theorem ev_gtI (i j : Int) : D.gt (.int i) (.int j) = .ok (.bl (decide (j < i))) := id rfl
@[simp] theorem ev_geI (i j : Int) : D.ge (.int i) (.int j) = .ok (.bl (decide (j ≤ i))) := id rfl
@[simp] theorem ev_eqI (i j : Int) : D.eq (.int i) (.int j) = .ok (.bl (i == j)) := by simp [D.eq, D.plain, D.dep, D.eqv]
@[simp] theorem ev_neI (i j : Int) : D.ne (.int i) (.int j) = .ok (.bl (i != j)) := by simp [D.ne, D.plain, D.dep, D.eqv, bne]
@[simp] theorem ev_eqS (i j : List Nat) : D.eq (.str i) (.str j) = .ok (.bl (i == j)) := by simp [D.eq, D.plain, D.dep, D.eqv]
@[simp] theorem ev_neS (i j : List Nat) : D.ne (.str i) (.str j) = .ok (.bl (i != j)) := by simp [D.ne, D.plain, D.dep, D.eqv, bne]
@[simp] theorem ev_neB (i j : Bool) : D.ne (.bl i) (.bl j) = .ok (.bl (i != j)) := by simp [D.ne, D.plain, D.dep, D.eqv, bne]
@[simp] theorem ev_eqNI (j : Int) : D.eq .non (.int j) = .ok (.bl false) := by simp [D.eq, D.plain, D.dep, D.eqv]
@[simp] theorem ev_neNI (j : Int) : D.ne .non (.int j) = .ok (.bl true) := by simp [D.ne, D.plain, D.dep, D.eqv]
@[simp] theorem ev_addI (i j : Int) : D.add (.int i) (.int j) = .ok (.int (i + j)) := id rfl
@[simp] theorem ev_subI (i j : Int) : D.sub (.int i) (.int j) = .ok (.int (i - j)) := id rfl
@[simp] theorem ev_lenS (s : List Nat) : D.len [.str s] = .ok (.int s.length) := id rfl
@[simp] theorem ev_lenT (s : List D) : D.len [.tup s] = .ok (.int s.length) := id rfl
@[simp] theorem ev_lenL (s : List D) : D.len [.lst s] = .ok (.int s.length) := id rfl
@[simp] theorem ev_inS' (c : Nat) (s : List Nat) : D.isin (.str [c]) (.str s) = .ok (.bl (decide (c ∈ s))) := id rfl
@[simp] theorem ev_notinS (c : Nat) (s : List Nat) : D.notin (.str [c]) (.str s) = .ok (.bl !(decide (c ∈ s))) := id rfl
@[simp] theorem ev_tyS (s : List Nat) : tyD "str" (.str s) = true := id rfl
@[simp] theorem ev_isN : D.is_ .non .non = .ok (.bl true) := id rfl
@[simp] theorem ev_isI (i : Int) : D.is_ (.int i) .non = .ok (.bl false) := id rfl
@[simp] theorem ev_isS (i : List Nat) : D.is_ (.str i) .non = .ok (.bl false) := id rfl
@[simp] theorem ev_isL (i : List D) : D.is_ (.lst i) .non = .ok (.bl false) := id rfl
@[simp] theorem ev_isnN : D.isnot .non .non = .ok (.bl false) := id rfl
@[simp] theorem ev_isnI (i : Int) : D.isnot (.int i) .non = .ok (.bl true) := id rfl
@[simp] theorem ev_isnS (i : List Nat) : D.isnot (.str i) .non = .ok (.bl true) := id rfl
@[simp] theorem ev_isnL (i : List D) : D.isnot (.lst i) .non = .ok (.bl true) := id rfl
@[simp] theorem ev_ixT0 (x : D) (l : List D) : D.ix (.tup (x :: l)) (.int 0) = .ok x := by
  show (match atI (x :: l) 0 with | some d => R.ok d | none => .bad) = _
  rw [show (0 : Int) = ((0 : Nat) : Int) from rfl, atI_nat]; rfl
@[simp] theorem ev_ixT1 (x y : D) (l : List D) : D.ix (.tup (x :: y :: l)) (.int 1) = .ok y := by
  show (match atI (x :: y :: l) 1 with | some d => R.ok d | none => .bad) = _
  rw [show (1 : Int) = ((1 : Nat) : Int) from rfl, atI_nat]; rfl
@[simp] theorem ev_ixL0 (x : D) (l : List D) : D.ix (.lst (x :: l)) (.int 0) = .ok x := by
  show (match atI (x :: l) 0 with | some d => R.ok d | none => .bad) = _
  rw [show (0 : Int) = ((0 : Nat) : Int) from rfl, atI_nat]; rfl
theorem ev_ixTn {l : List D} {k : Nat} {d : D} (h : l[k]? = some d) : D.ix (.tup l) (.int k) = .ok d := by
  show (match atI l k with | some d => R.ok d | none => .bad) = _
  rw [atI_nat, h]
theorem ev_ixLn {l : List D} {k : Nat} {d : D} (h : l[k]? = some d) : D.ix (.lst l) (.int k) = .ok d := by
  show (match atI l k with | some d => R.ok d | none => .bad) = _
  rw [atI_nat, h]
theorem ev_ixSn {l : List Nat} {k : Nat} {d : Nat} (h : l[k]? = some d) : D.ix (.str l) (.int k) = .ok (.str [d]) := by
  show (match atI l k with | some c => R.ok (D.str [c]) | none => .bad) = _
  rw [atI_nat, h]
theorem ev_ixSl {l : List Nat} {d : Nat} (h : l.getLast? = some d) : D.ix (.str l) (.int (-1)) = .ok (.str [d]) := by
  show (match atI l (-1) with | some c => R.ok (D.str [c]) | none => .bad) = _
  rw [atI_last l (by intro e; simp [e] at h), h]
@[simp] theorem ev_joinT (L : List (List Nat)) (h : L.flatten.length ≤ 16777216) : D.join (.str []) [.tup (L.map D.str)] = .ok (.str L.flatten) := by
  have e : (L.map (·.length)).sum = L.flatten.length := by rw [List.length_flatten]
  unfold D.join
  simp only [allStr_map, List.length_nil, Nat.mul_zero, Nat.add_zero, e, lim, if_pos h, joinL_nil]
@[simp] theorem ev_joinL (L : List (List Nat)) (h : L.flatten.length ≤ 16777216) : D.join (.str []) [.lst (L.map D.str)] = .ok (.str L.flatten) := by
  have e : (L.map (·.length)).sum = L.flatten.length := by rw [List.length_flatten]
  unfold D.join
  simp only [allStr_map, List.length_nil, Nat.mul_zero, Nat.add_zero, e, lim, if_pos h, joinL_nil]
@[simp] theorem ev_all (bs : List Bool) : D.all [.lst (bs.map D.bl)] = .ok (.bl (bs.all id)) := by
  show (match allBl (bs.map D.bl) with | some bs => R.ok (D.bl (bs.all id)) | none => .bad) = _
  rw [allBl_map]
theorem b64_small {i : Int} (h0 : 0 ≤ i) (h1 : i ≤ 1000000000000) : b64 i = true := wid_iff.2 ⟨by omega, by omega⟩
theorem ev_mulI {i j : Int} (h0 : 0 ≤ i) (h1 : i ≤ 1000000000000) : D.mul (.int i) (.int j) = .ok (.int (i * j)) := by
  show (if (b64 i || b64 j) = true then R.ok (D.int (i * j)) else R.bad) = _
  rw [b64_small h0 h1, Bool.true_or, if_pos rfl]
theorem ev_index {s : List Nat} {c : Nat} (h : c ∈ s) : D.index (.str s) [.str [c]] = .ok (.int (s.idxOf c)) := by
  show (if c ∈ s then R.ok (D.int (s.idxOf c)) else R.bad) = _
  rw [if_pos h]
/-- ''.join(sorted(text)) -/
theorem ev_sortS (l : List Nat) (h : l.length < 64) : D.sorted [.str l] = .ok (.lst (((srt l).map fun c => [c]).map .str)) := by
  unfold D.sorted
  simp only [if_pos h, isort_signs]
theorem ev_sortL (l : List Nat) (h : l.length < 64) : D.sorted [.lst ((l.map fun c => [c]).map .str)] = .ok (.lst (((srt l).map fun c => [c]).map .str)) := by
  unfold D.sorted
  simp only [allStr_map, List.length_map, if_pos h, isort_signs]
end
end CL

namespace CL
open PySem PySem.Spec PyProof.Rows L2 HT

/-! ### [::-1] of tuples and lists -/
section
variable {prog : Program} {w : World} {A : Around} {E : Value → Shared → Prop} {s : Shared}
theorem back_adjust (n : Nat) : Builtin.Slice.sliceAdjust none none (-1) (n : Int) = ((n : Int) - 1, -1) := by
  unfold Builtin.Slice.sliceAdjust
  simp
theorem back_places (n : Nat) : Builtin.Slice.slicePlaces ((n : Int) - 1) (-1) (-1) = n := by
  unfold Builtin.Slice.slicePlaces
  simp
  try omega
theorem back_pick (xs : Array Value) : ((List.range xs.size).filterMap fun (m : Nat) => xs[((xs.size : Int) - 1 + (m : Int) * (-1)).toNat]?).toArray = xs.toList.reverse.toArray := by
  have e : (List.range xs.size).filterMap (fun (m : Nat) => xs[((xs.size : Int) - 1 + (m : Int) * (-1)).toNat]?) = ((List.range xs.size).map fun k => xs.size - 1 - k).filterMap (xs[·]?) := by
    rw [List.filterMap_map]
    congr 1
    funext m
    show _ = xs[xs.size - 1 - m]?
    congr 1
    omega
  rw [e, PySem.W.krv_range, List.filterMap_reverse, PySem.W.krv_all]
theorem back_applied {sl : Addr} {n : Nat} {t : Tok} {Q : Int × Int × Nat → Shared → Prop} (hs : s.heap.IsSliceOf sl .none .none (.int (-1) t))
    (h : Q ((n : Int) - 1, -1, n) s) : wpAny (model prog w) A (Builtin.Slice.sliceApplied (.ref sl) (pure (n : Int))) Q E s := by
  obtain ⟨os, hos, hcs, hds⟩ := id hs
  unfold Builtin.Slice.sliceApplied Builtin.Slice.sliceFields
  refine wpAny_bind (wpAny_bind (wpAny_field hos hds (x := .none) rfl (wpAny_bind (wpAny_field hos hds (x := .none) rfl (wpAny_bind (wpAny_field hos hds (x := .int (-1) t) rfl (wpAny_pure ?_)))))))
  refine wpAny_bind (slicePart_int ?_)
  show wpAny _ _ (if ((-1 : Int) == 0) = true then _ else _) _ _ s
  rw [if_neg (by decide)]
  refine wpAny_bind (slicePart_none (wpAny_bind (slicePart_none (wpAny_bind (wpAny_pure ?_)))))
  show wpAny _ _ (match Builtin.Slice.sliceAdjust none none (-1) (n : Int) with | (lo, hi) => pure (lo, (-1 : Int), Builtin.Slice.slicePlaces lo hi (-1))) _ _ s
  rw [back_adjust n]
  show wpAny _ _ (pure ((n : Int) - 1, (-1 : Int), Builtin.Slice.slicePlaces ((n : Int) - 1) (-1) (-1))) _ _ s
  rw [back_places]
  exact wpAny_pure h
theorem back_tuple {a c : Addr} {us : Array Value} {tk : Tok} {Q : Value → Shared → Prop} (ha : IsTup s.heap a us) (hc : s.heap.IsSliceOf c .none .none (.int (-1) tk)) (hz : us.size ≤ sizeLine)
    (q : Q (.ref s.heap.objs.size) { s with heap := s.heap.push { cls := .type "tuple", data := .seq us.toList.reverse.toArray } }) : wpAny (model prog w) A (getItem (.ref a) (.ref c)) Q E s := by
  have fit : sizeOk (.seq us.toList.reverse.toArray) := (by simpa using hz : us.toList.reverse.toArray.size ≤ sizeLine)
  obtain ⟨oc, h1, h2, h3⟩ := id hc
  have tc : s.TypeIs (.ref c) "slice" := ⟨oc, h1, h2⟩
  have no : ((us.size : Int) - 1 == 0 && (-1 : Int) == 1 && us.size == us.size) = false := by simp
  unfold getItem
  refine wpAny_holding (wpAny_bind (wpAny_sequenceKey ha.typeIs (by decide) (wpAny_bind (wpAny_callSpecial?_slot (name := Str.ofString "__getitem__") ha.typeIs PyProof.Rows.slot_tuple_getitem (wpAny_call_entry PyProof.Rows.slot_tuple_getitem ha.typeIs entry_tuple_getitem ?_ (args_tuple_getitem _ _))))))
  show wpAny _ _ (Builtin.Tuple.tupleItemsOf (.ref a) >>= _) _ _ s
  refine wpAny_bind (tupleItemsOf_ ha (wpAny_bind (wpAny_typeOf tc ?_)))
  rw [if_pos (by decide)]
  refine wpAny_bind (back_applied hc ?_)
  show wpAny _ _ (if ((us.size : Int) - 1 == 0 && (-1 : Int) == 1 && us.size == us.size) = true then _ else _) _ _ s
  rw [no, if_neg Bool.false_ne_true, back_pick]
  first
    | exact wpAny_bind (m := Builtin.Tuple.tupleExact _) (wpAny_newObj_type (wpAny_pure ⟨_, rfl, wpAny_pure q⟩) fit)
    | exact wpAny_bind (m := Builtin.Tuple.tupleExact _) (wpAny_newObj_type (wpAny_bind (wpAny_pure (wpAny_pure ⟨_, rfl, wpAny_pure q⟩))) fit)
    | exact wpAny_bind (wpAny_bind (m := Builtin.Tuple.tupleExact _) (wpAny_newObj_type (wpAny_pure (wpAny_pure ⟨_, rfl, wpAny_pure q⟩)) fit))
    | exact wpAny_bind (wpAny_bind (m := Builtin.Tuple.tupleExact _) (wpAny_newObj_type (wpAny_pure ⟨_, rfl, wpAny_pure q⟩) fit))
end

section
variable {X : Cx} {M : Md} {W : WX} {O : List Nat} {f : DEnv → R D} {e : Expr} {pos : Pos}
/-- [::-1] of a tuple or a list -/
def revV (f : DEnv → R D) : DEnv → R D := fun δ => (f δ).bind fun d => match d with
  | .tup l => .ok (.tup l.reverse)
  | .lst l => .ok (.lst l.reverse)
  | _ => .bad
theorem sd_revV {k : Nat} {p1 p2 p3 : Pos} (he : PE X e (tD M W O f)) (hK : X.K = M.K := by rfl) : PE X (.Subscript e (.Slice none none (some (.UnaryOp .USub (.Constant (.int 1) k p1) p2)) p3) pos) (tD M W O (revV f)) := by
  refine ⟨fun pins s σ H Q I ⟨δ, F, E, w⟩ => ?_⟩
  have run := he.run pins s σ H (fun v H1 => ∃ (a : Addr) (xs : List V), v = .ref a ∧ ((H1 a = some (.tup xs) ∧ ∀ p, H1 p = none → Q (.ref p) (upd H1 p (.tup xs.reverse))) ∨ (H1 a = some (.lst xs) ∧ ∀ p, H1 p = none → Q (.ref p) (upd H1 p (.lst xs.reverse))))) I ?_
  · refine Subscript_ (thn run fun v s1 ⟨x, H1, I1, r1, q1⟩ => ?_)
    obtain ⟨a, xs, rfl, q1⟩ := q1
    have r1 : v = .ref a := r1
    subst r1
    have pm : PO X (some (.UnaryOp .USub (.Constant (.int 1) k p1) p2)) (tPart (tUn (rU fun i => .int (-i)) (tC (.int 1)))) := po_some (pe_un un_neg pe_int)
    refine wpAny_Slice (thn (po_none.run pins s1 σ H1 (fun o H2 => o = none ∧ H2 = H1) I1 ⟨rfl, rfl⟩) fun vl s2 ⟨l, H2, I2, pl, el, e2⟩ => ?_)
    subst el; subst e2
    refine thn (po_none.run pins s2 σ H2 (fun o H3 => o = none ∧ H3 = H2) I2 ⟨rfl, rfl⟩) fun vu s3 ⟨u, H3, I3, pu, eu, e3⟩ => ?_
    subst eu; subst e3
    refine thn (pm.run pins s3 σ H3 (fun o H4 => o = some (-1) ∧ H4 = H3) I3 ⟨1, rfl, -1, rfl, rfl, rfl⟩) fun vm s4 ⟨o, H4, I4, pm4, eo, e4⟩ => ?_
    subst eo; subst e4
    cases pl
    cases pu
    have I5 : L2.Inv X pins σ H4 { s4 with heap := s4.heap.push { cls := .type "slice", data := .fields #[.none, .none, vm] } } := I4.kept (t' := s4.toks) fun b ob q => Heap.get?_push_of_some _ q
    have hsl : Heap.IsSliceOf (s4.heap.push { cls := .type "slice", data := .fields #[.none, .none, vm] }) s4.heap.objs.size .none .none vm := ⟨_, Heap.get?_push_size _ rfl, rfl, rfl⟩
    show wpAny _ X.A (subscriptTail e _ (.ref a) (.ref s4.heap.objs.size)) _ X.xe _
    rcases q1 with ⟨ha, q1⟩ | ⟨ha, q1⟩
    · obtain ⟨its, rv, ht, hz⟩ := I5.tuple (SqT.of ha)
      refine tail_any (ops := [.ref a, .ref s4.heap.objs.size]) ht.typeIs PyProof.Rows.slot_tuple_getitem.lookup ?_ (by with_unfolding_all rfl)
      obtain ⟨i3, t3, rfl, e3⟩ : ∃ i3 t3, vm = .int i3 t3 ∧ i3 = -1 := by
        cases pm4; exact ⟨_, _, rfl, rfl⟩
      subst e3
      have hlen := rv.length
      refine back_tuple ht hsl (by rw [List.size_toArray, ← hlen]; exact hz) ?_
      have hf := I5.hok.fresh (Nat.le_refl _)
      refine ⟨.ref _, upd H4 _ (.tup xs.reverse), I5.laid (t' := s4.toks) (fun b u e => Heap.get?_push_of_some _ e) (Nat.le_refl _) ?_, rfl, q1 _ hf⟩
      exact ⟨by simpa using hz, its.reverse, rv.reverse, ⟨_, Heap.get?_push_size _ rfl, rfl, 0, by simp⟩⟩
    · obtain ⟨its, rv, ht, hz⟩ := I5.list (SqL.of ha)
      have hlen := rv.length
      refine tail_any (ops := [.ref a, .ref s4.heap.objs.size]) ht.isList.typeIs slot_list_getitem.lookup ?_ (by with_unfolding_all rfl)
      refine wpAny_getItem_list_slice (lo := none) (hi := none) (st := some (-1)) ht.isList hsl .none .none pm4 (by decide) ?_ (by rw [List.size_toArray, ← hlen]; exact hz)
      rw [PySem.W.krv_pick]
      have hf := I5.hok.fresh (Nat.le_refl _)
      refine ⟨.ref _, upd H4 _ (.lst xs.reverse), I5.laid (t' := s4.toks) (fun b u e => Heap.get?_push_of_some _ e) (Nat.le_refl _) ?_, rfl, q1 _ hf⟩
      exact ⟨by simpa using hz, its.reverse, 0, rv.reverse, by rw [Heap.get?_push_size _ rfl]⟩
  · refine tE.one E w fun d v H1 F1 ed g1 r w1 => ?_
    cases d with
    | tup ds =>
      cases r with
      | @tup a xs _ h1 h2 =>
        refine ⟨_, _, rfl, .inl ⟨h1, fun p hp => ?_⟩⟩
        have g2 := Grow.newT (o := .tup xs.reverse) g1.dom hp
        exact w1 _ _ _ (g1.trans g2) (.tup upd_same (h2.reverse.grow g2))
    | lst ds =>
      cases r with
      | @lst a xs _ h0 h1 h2 =>
        refine ⟨_, _, rfl, .inr ⟨h1, fun p hp => ?_⟩⟩
        have g2 := Grow.newL (o := .lst xs.reverse) g1.dom hp
        exact w1 _ _ _ (g1.trans g2) (.lst (.inr rfl) upd_same (h2.reverse.grow g2))
    | _ => exact w1.elim
@[simp] theorem ev_revV {δ : DEnv} : revV f δ = (f δ).bind fun d => match d with | .tup l => .ok (.tup l.reverse) | .lst l => .ok (.lst l.reverse) | _ => .bad := id rfl
end
end CL

set_option maxHeartbeats 4000000
namespace CL
open PySem PySem.Spec PyProof.Rows L2 HT

/-! ### tuple * int, the factor at least 1 -/
theorem tuple_mul1 (l : Addr) (its : Array Value) (n : Nat) (dd : Option Addr) (sl : Array (Option Value)) (u : Tok) :
    Meets (Builtin.«tuple.__mul__» ⟨[.ref l, .int 1 u], []⟩) (fun _ R s => s.heap.get? l = some { cls := .type "tuple", dict := dd, data := .seq its n, slots := sl } ∧ R (.ok (.ret (Value.ref l))) s) :=
  .of_wp fun prog w A R s h => by
    obtain ⟨hp, g, d, tk, os⟩ := s
    obtain ⟨hl, h⟩ := h
    have f1 := AutoSeq1.idx_int
    have c1 : (its.isEmpty || (1 : Int) == 1) = true := by simp
    wp_walk using wpAny_loadPart' hl
    repeat (first
      | (refine wpAny_ite_false (by decide) ?_; wp_walk using wpAny_loadPart' hl)
      | (refine wpAny_ite_true (by rw [c1]; rfl) ?_; wp_walk using wpAny_loadPart' hl)
      | (refine wpAny_ite_true (by decide) ?_; wp_walk using wpAny_loadPart' hl))
    try exact ⟨_, rfl, h⟩

def D.mulU : D → D → R D
  | .tup l, .int k => if l ≠ [] ∧ l.length ≤ 1000 ∧ 1 ≤ k ∧ k ≤ 1000 then .ok (.tup (List.replicate k.toNat l).flatten) else .bad
  | _, _ => .bad
section
variable {X : Cx} {M : Md}
theorem od_mulU : OpR X (binaryOp .Mult) (rD M D.mulU) := by
  intro pins s σ H x y v u Q I rx ry ⟨F, a, b, dm, ra, rb, w⟩
  unfold D.mulU at w
  split at w
  · rename_i l k
    split at w
    · rename_i h
      by_cases hk : 2 ≤ k
      · refine od_mulT (M := M) pins s σ H x y v u Q I rx ry ⟨F, _, _, dm, ra, rb, ?_⟩
        have e : D.mulT (.tup l) (.int k) = .ok (.tup (List.replicate k.toNat l).flatten) := if_pos ⟨h.1, h.2.1, hk, h.2.2.2⟩
        rw [e]
        exact w
      · have e1 : k = 1 := by omega
        subst e1
        cases (show Rep M F H _ _ from ra) with
        | @tup p xs _ h1 h2 =>
          cases (show Rep M F H _ _ from rb)
          have ev : v = .ref p := rx
          subst ev
          obtain ⟨t, rfl⟩ := ry
          obtain ⟨its, r, ⟨⟨cls, dd, data, sl⟩, ho, hc, n, hd⟩, hs⟩ := I.tuple (SqT.of h1)
          simp only at hc hd
          subst hc hd
          have fin : Q (.ref p) H := by
            refine w (.ref p) H F (Grow.refl dm) ?_
            have : (List.replicate (Int.toNat 1) l).flatten = l := by simp
            rw [this]
            exact .tup h1 h2
          refine wpAny_binaryOp_repeat_ref (T := "tuple") (U := "int") (by decide) ⟨_, ho, rfl⟩ (fun s' => typeIs_int s' 1 t) noFill_tuple_mul PySem.F.fills_int_mul PySem.F.slot_int_rmul repeat_tuple PySem.F.slot_int_index.lookup
            (call_meets PySem.F.slot_int_rmul (typeIs_int s 1 t) PySem.F.entry_int_rmul (PySem.F.args_int_rmul_2 _ _) (int_rmul_tuple 1 t p its.toArray n dd sl)
              ⟨ho, rfl, ⟨_, ho, rfl⟩, call_meets PySem.F.slot_tuple_mul ⟨_, ho, rfl⟩ PySem.F.entry_tuple_mul (PySem.F.args_tuple_mul_2 _ _) (tuple_mul1 p its.toArray n dd sl t) ⟨ho, ?_⟩⟩)
          exact ⟨.ref p, H, I, rfl, fin⟩
    · exact w.elim
  · exact w.elim
end
end CL

namespace CL
open PySem PySem.Spec PyProof.Rows L2

/-! ### a caught exception in a slot -/
mutual
def D.noX : D → Bool
  | .opq 2 _ => false
  | .lst l => D.noXs l
  | .tup l => D.noXs l
  | .dct _ => false
  | _ => true
def D.noXs : List D → Bool
  | [] => true
  | d :: ds => d.noX && D.noXs ds
end
def Md.at (M : Md) (a : Addr) : Md := { M with xa := fun b => b = a }
section
variable {M : Md} {F : Addr → Prop} {H : Hp} {a : Addr}
mutual
theorem Rep.toX (hx : ∀ b, ¬ M.xa b) : ∀ {v : V} {d : D}, Rep M F H v d → Rep (M.at a) F H v d
  | _, _, .non => .non
  | _, _, .bl b => .bl b
  | _, _, .int i => .int i
  | _, _, .str h => .str h
  | _, _, .lst h1 h2 h3 => .lst h1 h2 (RepAll.toX hx h3)
  | _, _, .tup h2 h3 => .tup h2 (RepAll.toX hx h3)
  | _, _, .scr h => .scr h
  | _, _, .fn h e => .fn h e
  | _, _, .raw h => absurd h (hx _)
  | _, _, .dct h1 h2 h3 => .dct h1 h2 (RepEs.toX hx h3)
theorem RepAll.toX (hx : ∀ b, ¬ M.xa b) : ∀ {vs : List V} {ds : List D}, RepAll M F H vs ds → RepAll (M.at a) F H vs ds
  | _, _, .nil => .nil
  | _, _, .cons h t => .cons (Rep.toX hx h) (RepAll.toX hx t)
theorem RepEs.toX (hx : ∀ b, ¬ M.xa b) : ∀ {es : List DictEntry} {kds : List (D × D)}, RepEs M F H es kds → RepEs (M.at a) F H es kds
  | _, _, .nil => .nil
  | _, _, .cons e e2 e3 h t => .cons e e2 e3 (Rep.toX hx h) (RepEs.toX hx t)
end
mutual
theorem Rep.ofX : ∀ {v : V} {d : D}, d.noX = true → Rep (M.at a) F H v d → Rep M F H v d
  | _, _, _, .non => .non
  | _, _, _, .bl b => .bl b
  | _, _, _, .int i => .int i
  | _, _, _, .str h => .str h
  | _, _, n, .lst h1 h2 h3 => .lst h1 h2 (RepAll.ofX (by simpa [D.noX] using n) h3)
  | _, _, n, .tup h2 h3 => .tup h2 (RepAll.ofX (by simpa [D.noX] using n) h3)
  | _, _, _, .scr h => .scr h
  | _, _, _, .fn h e => .fn h e
  | _, _, n, .raw h => by simp [D.noX] at n
  | _, _, n, .dct _ _ _ => by simp [D.noX] at n
theorem RepAll.ofX : ∀ {vs : List V} {ds : List D}, D.noXs ds = true → RepAll (M.at a) F H vs ds → RepAll M F H vs ds
  | _, _, _, .nil => .nil
  | _, _, n, .cons h t => by
    simp only [D.noXs, Bool.and_eq_true] at n
    exact .cons (Rep.ofX n.1 h) (RepAll.ofX n.2 t)
end
theorem SInv.toX {H0 : Hp} {F0 : Addr → Prop} {σ : L2.St} {δ : DEnv} (hx : ∀ b, ¬ M.xa b) (I : SInv M H0 F0 [] F H σ δ) : SInv (M.at a) H0 F0 [] F H σ δ :=
  ⟨⟨I.e.len, I.e.dom, fun i d hi e => let ⟨v, h1, h2⟩ := I.e.fr i d hi e; ⟨v, h1, h2.toX hx⟩, fun i d hi => (nomatch hi), fun i j p d e hi => (nomatch hi)⟩, I.sub, I.up, I.low, fun i d p hi => (nomatch hi)⟩
end

/-! ### isinstance(e, C) in an except suite -/
def isX (i : Nat) (b : Bool) : DEnv → R D := fun δ => match δ[i]? with
  | some (some (.opq 2 [])) => .ok (.bl b)
  | _ => .bad
section
variable {X : Cx} {M : Md} {W : WX} {O : List Nat} {pos : Pos}
theorem sd_isX (i : Nat) {n m : Nat} {b : Bool} {a : Addr} {oe : Obj} {pn : List (Addr × Obj)} {x y : Str} {p p1 p2 : Pos} (C : ExcC X.K (M.xc n)) (hz : Zc (.ref (M.xc n)) none oe) (hf : ∃ vs, oe.data = .fields vs) (hk : PySem.W.kitOne X.K (.ref (M.xc n)) (.ref (M.xc m)) = some b)
    (hm : X.mg "isinstance" = none) (hy : X.mg y = some (.ref (M.xc m))) (hg : Gl X "isinstance" := by rfl) (hgy : Gl X y := by rfl) (hO : (O.contains i) = false := by rfl) (hN : X.N[i]? = some x := by rfl) (hv : Vis X.env.scope x := by first | exact Or.inl rfl | exact Or.inr (Or.inl rfl) | exact Or.inr (Or.inr rfl)) (hd : (x == ("__debug__" : Str)) = false := by decide)
    (hcd : (x == ("__classdict__" : Str)) = false := by decide) (hdy : (y == ("__debug__" : Str)) = false := by decide)
    (hs1 : starEach [.Name y p2] X.env = (false, eval (.Name y p2) X.env) :: starEach [] X.env := by rfl)
    (hs : starEach [.Name x p1, .Name y p2] X.env = (false, eval (.Name x p1) X.env) :: starEach [.Name y p2] X.env := by rfl) (hp : (backTo pos (starEach [.Name y p2] X.env)).any (·.1) = false := by rfl) :
    PE (X.suite a ((a, oe) :: pn)) (.Call (.Name "isinstance" p) [.Name x p1, .Name y p2] [] pos) (tD (M.at a) W O (isX i b)) :=
  pe_imp (pe_callB (X := X.suite a ((a, oe) :: pn)) (call_isE C hz hf) hg hm boot_isinstance (pa_cons (pe_var (X := X.suite a ((a, oe) :: pn)) (i := i) hN hv hd hcd) (pa_cons (pe_glob (X := X.suite a ((a, oe) :: pn)) (v := .ref (M.xc m)) hgy hy rfl hdy) pa_nil hs1) hs) (by decide) (by decide) hs hp) fun σ H Q ⟨δ, F, I, w⟩ => by
    unfold isX at w
    split at w
    · rename_i e
      obtain ⟨v, e1, r⟩ := I.fr i _ (by intro h; simp [h] at hO) e
      cases r with
      | raw ha =>
        have ha : _ = a := ha
        subst ha
        exact ⟨_, e1, .ref (M.xc m), .ref (M.xc m), b, rfl, fun u hu => hu, hk, w (.bl b) H F (Grow.refl I.dom) (.bl b)⟩
    · exact w.elim
end

/-! ### try: .. except C as e: .. (the suite returns) -/
def tryS (cs : Nat → Bool) (i : Nat) (gb : DEnv → Out) (gh : Nat → DEnv → Out) : DEnv → Out := fun δ => match gb δ with
  | .exc n δ' => if cs n then (match gh n (δ'.set i (some (.opq 2 []))) with
      | .ret d => if d.noX then .ret d else .bad
      | _ => .bad) else .bad
  | o => o
section
variable {X : Cx} {M : Md} {W : WX} {H0 : Hp} {F0 : Addr → Prop} {O O' Ol : List Nat} {gb : DEnv → Out} {gh : Nat → DEnv → Out} {pos : Pos}
theorem ss_try (cs : Nat → Bool) (i : Nat) {x n : Str} {C : Addr} {body suite : List Stmt} {b0 : Stmt} {np pos' : Pos} (hx0 : ∀ b, ¬ M.xa b) (hst : X.stack = X.env :: X.outer) (hfr : X.env.frame = some X.env.locals) (hN : X.N.Nodup) (tk : Takes X W) (hmg : X.mg x = some (.ref C))
    (hex : ∀ n, cs n = true → PySem.W.exmOne X.K (.ref (M.xc n)) (.ref C) = some true)
    (hb : ∀ (W' : WX) (pn : List (Addr × Obj)) (xe : Value → Shared → Prop), Takes (X.tr pn xe) W' → PassesOwn (model X.prog X.w) X.A X.env xe → PSs (X.tr pn xe) body (tS M W' H0 F0 O O' Ol gb))
    (hsu : ∀ (n : Nat) (a : Addr) (oe : Obj) (pn : List (Addr × Obj)), cs n = true → Zc (.ref (M.xc n)) none oe → (∃ vs, oe.data = .fields vs) → PSs (X.suite a ((a, oe) :: pn)) (b0 :: suite) (tS (M.at a) (fun _ _ _ _ => False) H0 F0 [] [] [] (gh n)))
    (hi : X.N[i]? = some n := by rfl) (hln : X.env.kindOf n = some .local := by rfl) (hg : Gl X x := by rfl) (hdb : (x == ("__debug__" : Str)) = false := by decide) :
    PS X (.Try body [.ExceptHandler (some (.Name x np)) (some n) (b0 :: suite) pos'] [] [] pos) (tS M W H0 F0 O O' Ol (tryS cs i gb gh)) := by
  refine ps_imp (ps_try_as (i := i) (c := .ref C) (Wout := W) (tb := fun W' => tS M W' H0 F0 O O' Ol gb) (ts := fun a cls d => fun E σ H => ∃ n, cs n = true ∧ cls = .ref (M.xc n) ∧ d = none ∧ tS (M.at a) (fun _ _ _ _ => False) H0 F0 [] [] [] (gh n) E σ H) hst hfr hN hi hln ⟨hg, hdb, .inl hmg⟩ tk hb fun a oe cls d pn hz hf => ?_) fun E σ H ⟨δ, F, I, w⟩ => ?_
  · refine ⟨fun pins s σ H D J ⟨n, h1, h2, h3, h4⟩ => ?_⟩
    subst h2; subst h3
    exact (hsu n a oe pn h1 hz hf).run pins s σ H D J h4
  · refine ⟨δ, F, I, ?_⟩
    unfold tryS at w
    cases eo : gb δ with
    | nxt δ' => rw [eo] at w; exact w
    | ret d => rw [eo] at w; exact w
    | brk δ' => rw [eo] at w; exact w
    | cnt δ' => rw [eo] at w; exact w
    | bad => rw [eo] at w; exact w
    | exc n δ' =>
      rw [eo] at w
      simp only at w
      split at w
      · rename_i hc
        intro σ' H' F' I'
        refine ⟨true, hex n hc, fun _ a ha => ⟨n, hc, rfl, rfl, δ'.set i (some (.opq 2 [])), F', ?_, ?_⟩, fun z => by cases z⟩
        · exact (I'.toX (a := a) hx0).set (.raw rfl)
        · cases eh : gh n (δ'.set i (some (.opq 2 []))) with
          | ret d =>
            rw [eh] at w
            simp only at w
            split at w
            · rename_i hn
              exact fun v H2 F2 g r => w v H2 F2 g (r.ofX hn)
            · exact w.elim
          | nxt _ => rw [eh] at w; exact w.elim
          | brk _ => rw [eh] at w; exact w.elim
          | cnt _ => rw [eh] at w; exact w.elim
          | exc _ _ => rw [eh] at w; exact w.elim
          | bad => rw [eh] at w; exact w.elim
      · exact w.elim
end

/-! ### defs as values, and calls of them -/
section
variable {X : Cx} {M : Md} {W : WX} {O : List Nat} {f : DEnv → R D} {fs : DEnv → R (List D)} {fe e : Expr} {es : List Expr} {pos : Pos}
theorem sd_fnv (s : List Nat) {k : Nat} {x : Str} {m : List D → R D} (F : FnD X.prog X.w M X.base k x m) (hM : On X M) (hs : x.cps.toList = s := by decide +kernel) (hg : Gl X x := by rfl) (hdb : (x == ("__debug__" : Str)) = false := by decide) : PE X (.Name x pos) (tD M W O (cst (.opq 1 [.str s]))) := by
  obtain ⟨fa, fd, ps, h1, _⟩ := F.ex
  exact sd_const (pe_glob (v := .ref fa) hg (by rw [hM.mg]; exact h1) rfl hdb) fun _ _ => .fn h1 hs
def callF (T : List (List Nat × (List D → R D))) (f : DEnv → R D) (fs : DEnv → R (List D)) : DEnv → R D := fun δ => (f δ).bind fun d => match d with
  | .opq 1 [.str s] => (match T.lookup s with | some m => (fs δ).bind m | none => .bad)
  | _ => .bad
theorem str_inj {x y : Str} (h : x.cps.toList = y.cps.toList) : x = y := by
  obtain ⟨x⟩ := x
  obtain ⟨y⟩ := y
  congr 1
  exact Array.toList_inj.1 h
theorem sd_callF {k : Nat} (T : List (List Nat × (List D → R D))) (hT : ∀ s m, T.lookup s = some m → ∃ x : Str, x.cps.toList = s ∧ FnD X.prog X.w M X.base k x m) (hM : On X M) (hr : Room k X.A) (tk : Takes X W) (hf : PE X fe (tD M W O f)) (ha : PA X (e :: es) (tA M W O (Rep M) fs))
    (hev : eval (.Call fe (e :: es) [] pos) X.env = (do callWith pos (← eval fe X.env) [] (backTo pos (starEach (e :: es) X.env)) (backToKw pos (keywordEach [] X.env))) := by rfl)
    (he : starEach (e :: es) X.env = (false, eval e X.env) :: starEach es X.env := by rfl) (hpl : (backTo pos (starEach es X.env)).any (·.1) = false := by rfl) :
    PE X (.Call fe (e :: es) [] pos) (tD M W O (callF T f fs)) := by
  refine ⟨fun pins s σ H Q I h => ?_⟩
  rw [hev]
  obtain ⟨δ, F, E, w⟩ := h
  have run := hf.run pins s σ H (fun v H1 => ∃ (fa : Addr) (fd : FuncData) (ps : List Str) (m : List D → R D), v = .ref fa ∧ PySem.W.keepIn X.K (.ref fa) = true ∧ Binds X.K fd ps [] ∧ FnOk X.prog X.w X.K X.mg X.base (L2.CX X.prog X.w) k fa fd ps (spD M m) ∧
      tA M W O (Rep M) fs σ H1 fun vs H2 => spD M m vs H2 Q (WE W σ)) I ?_
  · refine wpAny_bind (thn run fun u s1 ⟨v, H1, I1, r1, q1⟩ => ?_)
    obtain ⟨fa, fd, ps, m, rfl, h2, h3, h4, q⟩ := q1
    cases r1
    refine PySem.W.callWith_K (h₀ := X.base) I1.ok.mod.kin h2 (thn (ha.run pos pins s1 σ H1 _ I1 q) fun us s2 ⟨vs, H2, I2, r, q2⟩ => ⟨I2.kIn, ?_⟩) he hpl
    exact run_fnS (E := WE W) h4 hr h3 (passAt tk σ) I2 r q2
  · refine tE.one E w fun d v H1 F1 ed g1 r w1 => ?_
    split at w1
    · rename_i s
      split at w1
      · rename_i m el
        cases r with
        | @fn fa x _ h1 h2 =>
          obtain ⟨x', e1, FF⟩ := hT s m el
          obtain ⟨fa', fd, ps, g1', g2, g3, g4⟩ := FF.ex
          have ex : x' = x := str_inj (e1.trans h2.symm)
          subst ex
          have ea : fa' = fa := by
            rw [h1] at g1'
            cases g1'; rfl
          subst ea
          have g5 : FnOk X.prog X.w X.K X.mg X.base (L2.CX X.prog X.w) k fa' fd ps (spD M m) := by rw [hM.K, hM.mg]; exact g4
          rw [← hM.K] at g2 g3
          refine ⟨fa', fd, ps, m, rfl, g2, g3, g5, δ, F1, E.grow g1, ?_⟩
          refine R.wp_mono (R.wp_bind w1) (fun ds _ w2 vs H2 F2 g2 rs => ?_) fun n q H2 F2 g2 => q H2 F2 (g1.trans g2)
          exact ⟨F2, ds, g2.dom, rs.rep, R.wp_mono w2 (fun d _ q v H' F' g r => q v H' F' ((g1.trans g2).trans g) r) fun n q H' F' g => q H' F' ((g1.trans g2).trans g)⟩
      · exact w1.elim
    · exact w1.elim
@[simp] theorem ev_callF (T : List (List Nat × (List D → R D))) {δ : DEnv} : callF T f fs δ = (f δ).bind fun d => match d with | .opq 1 [.str s] => (match T.lookup s with | some m => (fs δ).bind m | none => .bad) | _ => .bad := id rfl
@[simp] theorem ev_isX (i : Nat) (b : Bool) {δ : DEnv} : isX i b δ = match δ[i]? with | some (some (.opq 2 [])) => .ok (.bl b) | _ => .bad := id rfl
end

/-! ### the end: what the classes say -/
structure NsAt (K : PySem.W.Frag) (x : Str) : Prop where
  ex : ∃ C : Addr, PySem.W.nsIn K mainGlobals x = some (some (.ref C))
theorem nsAt_mk {K : PySem.W.Frag} {x : Str} {C : Addr} (a : PySem.W.nsIn K mainGlobals x = some (some (.ref C))) : NsAt K x := ⟨C, a⟩
structure ExcAt (K : PySem.W.Frag) (x : Str) : Prop where
  ex : ∃ C : Addr, PySem.W.nsIn K mainGlobals x = some (some (.ref C)) ∧ ExcC K C
theorem excAt_mk {K : PySem.W.Frag} {x : Str} {D : Addr} (a : PySem.W.nsIn K mainGlobals x = some (some (.ref D))) (f1 : PySem.W.findIn K (.ref D) "__getattribute__" = some (some (.builtin "BaseException.__getattribute__"))) (f2 : PySem.W.findIn K (.ref D) "__getattr__" = some none) (f3 : PySem.W.subIn K (.ref D) (.type "BaseException") = some true)
    (f4 : PySem.W.hasDictIn K D = true) (f5 : PySem.W.findIn K (.ref D) "__class__" = some (some (.builtin "object.__class__"))) (f6 : PySem.W.specialIn K (.builtin "object.__class__") "__get__" = some (some (.builtin "getset_descriptor.__get__"))) (f7 : PySem.W.takesIn K (.builtin "object.__class__") = some true)
    (f8 : PySem.W.mroIn K D (.type "object") = some true) : ExcAt K x := ⟨D, a, f1, f2, f3, f4, f5, f6, f7, f8⟩
theorem ExcAt.use {K : PySem.W.Frag} {x : Str} {C : Addr} (h : ExcAt K x) (a : PySem.W.nsIn K mainGlobals x = some (some (.ref C))) : ExcC K C := by
  obtain ⟨C', e, q⟩ := h.ex
  rw [a] at e; cases e; exact q
structure KitAt (K : PySem.W.Frag) (x y : Str) (b : Bool) : Prop where
  ex : ∃ C D : Addr, PySem.W.nsIn K mainGlobals x = some (some (.ref C)) ∧ PySem.W.nsIn K mainGlobals y = some (some (.ref D)) ∧ PySem.W.kitOne K (.ref C) (.ref D) = some b
theorem kitAt_mk {K : PySem.W.Frag} {x y : Str} {b : Bool} {C D : Addr} (a : PySem.W.nsIn K mainGlobals x = some (some (.ref C))) (c : PySem.W.nsIn K mainGlobals y = some (some (.ref D))) (e : PySem.W.kitOne K (.ref C) (.ref D) = some b) : KitAt K x y b := ⟨C, D, a, c, e⟩
theorem KitAt.use {K : PySem.W.Frag} {x y : Str} {b : Bool} {C D : Addr} (h : KitAt K x y b) (a : PySem.W.nsIn K mainGlobals x = some (some (.ref C))) (c : PySem.W.nsIn K mainGlobals y = some (some (.ref D))) : PySem.W.kitOne K (.ref C) (.ref D) = some b := by
  obtain ⟨C', D', e, f, q⟩ := h.ex
  rw [a] at e; cases e
  rw [c] at f; cases f
  exact q
structure ExmAt (K : PySem.W.Frag) (x y : Str) (b : Bool) : Prop where
  ex : ∃ C D : Addr, PySem.W.nsIn K mainGlobals x = some (some (.ref C)) ∧ PySem.W.nsIn K mainGlobals y = some (some (.ref D)) ∧ PySem.W.exmOne K (.ref C) (.ref D) = some b
theorem exmAt_mk {K : PySem.W.Frag} {x y : Str} {b : Bool} {C D : Addr} (a : PySem.W.nsIn K mainGlobals x = some (some (.ref C))) (c : PySem.W.nsIn K mainGlobals y = some (some (.ref D))) (e : PySem.W.exmOne K (.ref C) (.ref D) = some b) : ExmAt K x y b := ⟨C, D, a, c, e⟩
theorem ExmAt.use {K : PySem.W.Frag} {x y : Str} {b : Bool} {C D : Addr} (h : ExmAt K x y b) (a : PySem.W.nsIn K mainGlobals x = some (some (.ref C))) (c : PySem.W.nsIn K mainGlobals y = some (some (.ref D))) : PySem.W.exmOne K (.ref C) (.ref D) = some b := by
  obtain ⟨C', D', e, f, q⟩ := h.ex
  rw [a] at e; cases e
  rw [c] at f; cases f
  exact q

theorem kitAt_by {K : PySem.W.Frag} {x y : Str} {b : Bool} {C D : Addr} (a : PySem.W.nsIn K mainGlobals x = some (some (.ref C))) (c : PySem.W.nsIn K mainGlobals y = some (some (.ref D))) (i : PySem.W.isClsIn K D = true) (t : PySem.W.typeIn K (.ref D) = some (.type "type")) (e : PySem.W.subIn K (.ref C) (.ref D) = some b) (n : (C == D) = true → b = true) : KitAt K x y b := by
  refine ⟨C, D, a, c, ?_⟩
  unfold PySem.W.kitOne
  split
  · rename_i h
    have : C = D := by simpa using h
    subst this
    rw [n (by simp)]
  · unfold PySem.W.kitCls
    first
      | (rw [if_pos (by unfold PySem.W.isClsIn at i; rw [i, t]; rfl)]; exact e)
      | (unfold PySem.W.isClsIn at i; simp [i, t, e])
theorem exmAt_by {K : PySem.W.Frag} {x y : Str} {b : Bool} {C D : Addr} (a : PySem.W.nsIn K mainGlobals x = some (some (.ref C))) (c : PySem.W.nsIn K mainGlobals y = some (some (.ref D))) (u : PySem.W.subIn K (.ref D) (.type "BaseException") = some true) (d : PySem.W.hasDictIn K D = true) (t : PySem.W.typeIn K (.ref D) = some (.type "type")) (e : PySem.W.subIn K (.ref C) (.ref D) = some b) : ExmAt K x y b :=
  ⟨C, D, a, c, PySem.W.exm_ref u d t e⟩
end CL

namespace CL
open PySem PySem.Spec PyProof.Rows L2
open PySem.W (dataLt AlikeAll iter_listW cmpIn_lt cmpIn_gt moved_old argBest_fold dataLt_tuple keyToksAll keyToks alike alikeAll)
section
variable {X : Cx} {M : Md} {W : WX} {O : List Nat} {f g : DEnv → R D} {fs : DEnv → R (List D)} {e a : Expr} {es : List Expr} {pos : Pos}
/-! ### new lists: of a comprehension, list(x) -/
theorem tLc_ofN {vs : List Nat} {fi : DEnv → R (List D)} {gi : D → DEnv → R DEnv} {ft : DEnv → R Bool} {fe : DEnv → R D} {σ : L2.St} {H : Hp} {Q : VK} (h : tN M W O (lcV vs fi gi ft fe) σ H Q) : tLc (tI M W O fi) (tGt M O vs gi) (tT M W0 O ft) (tD M W0 O fe) vs σ H Q := by
  obtain ⟨δ, F, I, w⟩ := h
  refine ⟨δ, F, I, R.wp_mono (R.wp_bind w) (fun ds eds w1 J H1 F1 g1 dw => ?_) fun _ q => q⟩
  intro A hA
  by_cases hl : ds.length ≤ lim
  · rw [if_pos hl] at w1
    cases el : (lcLoop (wipeD δ vs) gi ft fe ds).tot with
    | exc n => rw [el] at w1; unfold R.tot at el; split at el <;> cases el
    | bad => rw [el] at w1; exact w1.elim
    | ok tot =>
      rw [el] at w1
      have el := R.tot_ok el
      have A1 : Grow F1 H1 F1 (upd H1 A (.lst [])) := Grow.newT g1.dom hA
      have nA : ¬ F1 A := fun z => by obtain ⟨o, e⟩ := g1.dom A z; rw [hA] at e; cases e
      -- by the turn
      let Pv : Nat → Hp → Prop := fun i H' => ∃ rest, lcLoop (wipeD δ vs) gi ft fe (ds.drop i) = .ok rest ∧ ∃ F' acc accd, Grow F1 H1 F' H' ∧ ¬ F' A ∧ H' A = some (.lst acc) ∧ RepAll M F' H' acc accd ∧ accd ++ rest = tot ∧ accd.length ≤ i
      have wk : Walk J ds.length (fun H' => Keep F1 H1 H') (fun i H' x H'' => Keep F1 H1 H' ∧ J.yld i H' x H'') := ⟨fun i H' hi k => dw.go i H' hi k, fun H' k => dw.stop H' k, fun i H' x H'' hi k y => ⟨k, y⟩⟩
      refine lc_it wk Pv ⟨tot, by simpa using el, F1, [], [], A1, nA, upd_same, .nil, rfl, Nat.le_refl _⟩ (fun i H' hi p => ?_) (fun i x H' H'' hi p y => ?_) (fun H' p => ?_)
      · obtain ⟨_, _, F', _, _, gg, _⟩ := p
        exact gg.keep
      · obtain ⟨rest, er, F', acc, accd, gg, nF, hAacc, ra, ea, la⟩ := p
        obtain ⟨k, y⟩ := y
        obtain ⟨d, ed, hH, rx⟩ := dw.yld i H' x H'' hi k y
        -- the heap behind the iterator
        have g2 : Grow F' H' F' H'' := by
          rcases hH with e | ⟨T, xs, hT, e⟩
          · rw [e]; exact Grow.refl gg.dom
          · rw [e]; exact Grow.newT gg.dom hT
        have gg2 := gg.trans g2
        have rx' : Rep M F' H'' x d := rx.mono ⟨fun _ _ _ e => e, fun _ _ e => e, fun _ _ _ e => e⟩ gg.2.1
        have hdrop : ds.drop i = d :: ds.drop (i + 1) := by
          obtain ⟨hlt, e1⟩ := List.getElem?_eq_some_iff.mp ed
          rw [List.drop_eq_getElem_cons hlt, e1]
        rw [hdrop] at er
        unfold lcLoop at er
        obtain ⟨δ1, e1, er⟩ := R.bind_ok er
        obtain ⟨b, e2, er⟩ := R.bind_ok er
        have I0 : EInv M O F' H'' (wipe σ vs) (wipeD δ vs) := ((I.grow g1).grow gg2).wiped vs
        refine ⟨wipeD δ vs, F', d, I0, rx', ?_⟩
        rw [e1]
        intro σ2 I2 hw _
        refine ⟨by rw [hw]; exact wipe_wipe, δ1, F', I2, ?_⟩
        rw [e2]
        intro H3 F3 g3
        have nF3 : ¬ F3 A := fun z => by
          rcases g3.2.2.1 A z with q | q
          · exact nF q
          · rw [g2.1 A _ hAacc] at q; cases q
        have hA3 := g3.1 A _ (g2.1 A _ hAacc)
        cases b with
        | false =>
          simp only [Bool.false_eq_true, if_false] at er ⊢
          exact ⟨rest, er, F3, acc, accd, gg2.trans g3, nF3, hA3, (ra.grow g2).grow g3, ea, Nat.le_succ_of_le la⟩
        | true =>
          simp only [if_true] at er ⊢
          obtain ⟨yv, e3, er⟩ := R.bind_ok er
          obtain ⟨r', e4, er⟩ := R.bind_ok er
          cases er
          refine ⟨δ1, F3, I2.grow g3, ?_⟩
          rw [e3]
          intro v4 H4 F4 g4 r4
          have hA4 := g4.1 A _ hA3
          have nF4 : ¬ F4 A := fun z => by
            rcases g4.2.2.1 A z with q | q
            · exact nF3 q
            · rw [hA3] at q; cases q
          have kk : Keep F4 H4 (upd H4 A (.lst (acc ++ [v4]))) := by
            refine ⟨fun a us hF e => ?_, fun a us e => ?_, fun a o u e => ?_⟩
            · have ne : a ≠ A := fun z => nF4 (by rw [← z]; exact hF)
              rw [upd_ne ne]; exact e
            · rw [upd_ne (ne_of e hA4 (by intro z; cases z))]; exact e
            · rw [upd_ne (ne_of e hA4 (by intro z; cases z))]; exact e
          refine ⟨acc, hA4, ?_, r', e4, F4, acc ++ [v4], accd ++ [yv], ?_, nF4, upd_same, ?_, ?_, ?_⟩
          · rw [ra.length, lim_eq]; omega
          · have gA := (gg2.trans g3).trans g4
            refine ⟨fun a o e => ?_, gA.2.1, gA.2.2.1, fun a e => ?_⟩
            · rw [upd_ne (fun z => by subst z; rw [hA] at e; cases e)]; exact gA.1 a o e
            · obtain ⟨o, e1⟩ := gA.2.2.2 a e
              have ne : a ≠ A := fun z => nF4 (by rw [← z]; exact e)
              exact ⟨o, by rw [upd_ne ne]; exact e1⟩
          · exact ((((ra.grow g2).grow g3).grow g4).mono kk fun _ z => z).append (.cons (r4.mono kk fun _ z => z) .nil)
          · rw [List.append_assoc]; exact ea
          · rw [List.length_append]; simp; omega
      · obtain ⟨rest, er, F', acc, accd, gg, nF, hAacc, ra, ea, la⟩ := p
        rw [List.drop_length] at er
        cases er
        rw [List.append_nil] at ea
        subst ea
        have hHA : H A = none := by
          cases q : H A with
          | none => rfl
          | some o => rw [g1.1 A o q] at hA; cases hA
        exact w1 A H' F' (g1.trans gg) hHA nF ⟨acc, hAacc, ra⟩
  · rw [if_neg hl] at w1; exact w1.elim
theorem sn_lc {elt tg iter : Expr} {ifs : List Expr} {scope : Scope} {own : List (Str × Nat)} {vs : List Nat} {fi : DEnv → R (List D)} {gi : D → DEnv → R DEnv} {ft : DEnv → R Bool} {fe : DEnv → R D} (hc : X.calm = true) (hN : X.N.Nodup)
    (hi : PI X tg iter (tI M W O fi)) (ok : BlkOk X.N X.env.scope scope own) (hv : own.map (·.2) = vs)
    (hg : ∀ (s : Shared) (H : Hp) (C : Addr) (cl : List (Str × Addr)) (fp : List Addr), PG (X.blk s H scope (compEnvC scope cl C X.env) fp) tg (tGt M O vs gi))
    (ht : ∀ (s : Shared) (H : Hp) (C : Addr) (cl : List (Str × Addr)) (fp : List Addr), PTs (X.blk s H scope (compEnvC scope cl C X.env) fp) ifs (tT M W0 O ft))
    (he : ∀ (s : Shared) (H : Hp) (C : Addr) (cl : List (Str × Addr)) (fp : List Addr), PE (X.blk s H scope (compEnvC scope cl C X.env) fp) elt (tD M W0 O fe))
    (hs : ∀ x, foldedSetIterable iter X.env x = pure x := by intro _; rfl) :
    PE X (.ListComp elt [⟨tg, iter, ifs, 0⟩] scope pos) (tN M W O (lcV vs fi gi ft fe)) := pe_imp (pe_lc hc hN hi ok hg ht he hs) fun σ H Q h => by
  rw [hv]
  exact tLc_ofN h
/-- where a new list is made, a shared one is -/
theorem tN_of {σ : L2.St} {H : Hp} {Q : VK} (h : tD M W O f σ H Q) : tN M W O f σ H Q := by
  obtain ⟨δ, F, I, w⟩ := h
  refine ⟨δ, F, I, R.wp_mono w (fun d _ q p H' F' g hp nf o => ?_) fun _ q => q⟩
  cases d with
  | lst ds =>
    obtain ⟨vs, h1, h2⟩ := o
    have up : ∀ a, F' a → (fun a => F' a ∨ a = p) a := fun a z => .inl z
    have kp : Keep F' H' H' := ⟨fun _ _ _ e => e, fun _ _ e => e, fun _ _ _ e => e⟩
    refine q (.ref p) H' (fun a => F' a ∨ a = p) ⟨g.1, fun a z => .inl (g.2.1 a z), fun a z => ?_, fun a z => ?_⟩ (.lst (.inr rfl) h1 (h2.mono kp up))
    · rcases z with z | z
      · exact g.2.2.1 a z
      · subst z; exact .inr hp
    · rcases z with z | z
      · exact g.2.2.2 a z
      · subst z; exact ⟨_, h1⟩
  | dct ds =>
    obtain ⟨es, ep, h1, h2⟩ := o
    have up : ∀ a, F' a → (fun a => F' a ∨ a = p) a := fun a z => .inl z
    have kp : Keep F' H' H' := ⟨fun _ _ _ e => e, fun _ _ e => e, fun _ _ _ e => e⟩
    refine q (.ref p) H' (fun a => F' a ∨ a = p) ⟨g.1, fun a z => .inl (g.2.1 a z), fun a z => ?_, fun a z => ?_⟩ (.dct (.inr rfl) h1 (h2.mono kp up))
    · rcases z with z | z
      · exact g.2.2.1 a z
      · subst z; exact .inr hp
    · rcases z with z | z
      · exact g.2.2.2 a z
      · subst z; exact ⟨_, h1⟩
  | _ => exact o.elim
/-- list(x) of a list, of a tuple -/
def D.list : List D → R D
  | [.lst l] => .ok (.lst l)
  | [.tup l] => .ok (.lst l)
  | _ => .bad
theorem sn_list {p : Pos} (hm : X.mg "list" = none) (ha : PA X [e] (tA M W O (RepB M) fs)) (hg : Gl X "list" := by rfl)
    (hs : starEach [e] X.env = (false, eval e X.env) :: starEach [] X.env := by rfl) (hp : (backTo pos (starEach [] X.env)).any (·.1) = false := by rfl) : PE X (.Call (.Name "list" p) [e] [] pos) (tN M W O (app D.list fs)) :=
  pe_imp (pe_callTy call_list_of hg hm (by decide +kernel) ha (by decide) (by decide) hs hp) fun σ H Q ⟨δ, F, I, w⟩ => by
    refine ⟨δ, F, I, R.wp_mono (R.wp_bind w) (fun ds _ q vs H1 F1 g1 rs => ?_) fun _ q => q⟩
    have fresh : ∀ {l : Addr} {us : List V} {ls : List D}, H1 l = none → RepAll M F1 H1 us ls → (∀ p H' F', Grow F H F' H' → H p = none → ¬ F' p → Own M F' H' p (.lst ls) → Q (.ref p) H') → Q (.ref l) (upd H1 l (.lst us)) := fun {l us ls} hl r q => by
      have g2 := Grow.newT (o := .lst us) g1.dom hl
      have hH : H l = none := by
        cases z : H l with
        | none => rfl
        | some o => rw [g1.1 l o z] at hl; cases hl
      exact q l _ _ (g1.trans g2) hH (fun z => by obtain ⟨o, e⟩ := g1.dom l z; rw [hl] at e; cases e) ⟨us, upd_same, r.grow g2⟩
    unfold D.list at q
    split at q
    · rename_i ds' l heq
      split at heq
      · obtain ⟨v, rfl, p, xs, rfl, h1, r1⟩ := all2_one rs
        cases heq
        exact ⟨p, xs, rfl, .inl (SqL.of h1), fun l hl => fresh hl r1 q⟩
      · obtain ⟨v, rfl, r1⟩ := all2_one rs
        cases heq
        cases (show Rep M F1 H1 v _ from r1) with
        | tup h1 h2 => exact ⟨_, _, rfl, .inr (SqT.of h1), fun l hl => fresh hl h2 q⟩
      · cases heq
    · exact q.elim
theorem sd_list {p : Pos} (hm : X.mg "list" = none) (ha : PA X [e] (tA M W O (RepB M) fs)) (hg : Gl X "list" := by rfl)
    (hs : starEach [e] X.env = (false, eval e X.env) :: starEach [] X.env := by rfl) (hp : (backTo pos (starEach [] X.env)).any (·.1) = false := by rfl) : PE X (.Call (.Name "list" p) [e] [] pos) (tD M W O (app D.list fs)) :=
  pe_imp (sn_list hm ha hg hs hp) fun σ H Q h => tN_of h
/-! ### min, max -/
def D.min2 : List D → R D
  | [.int i, .int j] => .ok (.int (if j < i then j else i))
  | _ => .bad
def D.max2 : List D → R D
  | [.int i, .int j] => .ok (.int (if j > i then j else i))
  | _ => .bad
theorem cd_min2 (hc : X.calm = true) : CallR X (.builtin "min") (rC M D.min2) := by
  intro pins s σ H vs us Q I rv ⟨F, ds, dm, r, w⟩
  unfold D.min2 at w
  split at w
  · obtain ⟨v, u, rfl, r1, r2⟩ := all2_two r
    cases (show Rep M F H _ _ from r1)
    cases (show Rep M F H _ _ from r2)
    exact call_min2 hc pins s σ H _ us Q I rv ⟨_, _, rfl, w _ H F (Grow.refl dm) (.int _)⟩
  · exact w.elim
theorem cd_max2 (hc : X.calm = true) : CallR X (.builtin "max") (rC M D.max2) := by
  intro pins s σ H vs us Q I rv ⟨F, ds, dm, r, w⟩
  unfold D.max2 at w
  split at w
  · obtain ⟨v, u, rfl, r1, r2⟩ := all2_two r
    cases (show Rep M F H _ _ from r1)
    cases (show Rep M F H _ _ from r2)
    exact call_max2 hc pins s σ H _ us Q I rv ⟨_, _, rfl, w _ H F (Grow.refl dm) (.int _)⟩
  · exact w.elim
/-- data that can be put in order -/
def ordB (l : List D) : Bool := (l.all fun x => l.all fun y => alike x.py y.py) && (l.all fun x => match x with | .non => false | _ => true) && D.plains l && decide (D.deps l ≤ 40)
def ltD (x y : D) : Bool := dataLt x.py y.py
def D.minG : List D → R D
  | [.lst (x :: xs)] => if ordB (x :: xs) then .ok (xs.foldl (fun a y => if ltD y a then y else a) x) else .bad
  | _ => .bad
def D.maxG : List D → R D
  | [.lst (x :: xs)] => if ordB (x :: xs) then .ok (xs.foldl (fun a y => if ltD a y then y else a) x) else .bad
  | _ => .bad
theorem ordB_of {l : List D} (h : ordB l = true) : AlikeAll (D.pys l) ∧ D.plains l = true ∧ D.deps l ≤ 40 := by
  simp only [ordB, Bool.and_eq_true, decide_eq_true_eq, List.all_eq_true] at h
  obtain ⟨⟨⟨h1, h2⟩, h3⟩, h4⟩ := h
  refine ⟨?_, h3, h4⟩
  rw [pys_map]
  refine ⟨fun p hp q hq => ?_, fun p hp => ?_⟩
  · obtain ⟨d1, m1, rfl⟩ := List.mem_map.1 hp
    obtain ⟨d2, m2, rfl⟩ := List.mem_map.1 hq
    exact h1 d1 m1 d2 m2
  · obtain ⟨d1, m1, rfl⟩ := List.mem_map.1 hp
    have := h2 d1 m1
    cases d1 <;> simp [D.py] at this ⊢
theorem cd_minG (hc : X.calm = true) (hu : X.A.units + 64 < cLine) : CallR X (.builtin "min") (rC M D.minG) := by
  intro pins s σ H vs us Q I rv ⟨F, ds, dm, r, w⟩
  unfold D.minG at w
  split at w
  · obtain ⟨v, rfl, a, xs, rfl, h1, r1⟩ := all2_one r
    split at w
    · rename_i x ds hall
      obtain ⟨al, hpl, hdp⟩ := ordB_of hall
      obtain ⟨its, rvs, p, hz⟩ := I.list (SqL.of h1)
      cases rv with
      | cons rv rv' =>
        cases rv'
        cases rv
        obtain ⟨as, hr⟩ := reads_rows I r1 rvs hpl
        have hr' : ReadsAll s.heap its.toArray.toList (D.pys (x :: ds)) as := by simpa using hr
        have hn : its.toArray.size = ds.length + 1 := by have := r1.length; have := rvs.length; simp at *; omega
        refine call_min_walkH (iter_listW (A := X.A.in1) (I.ok.hd hc) p.isList fun s₂ e W st hfp hw hk => ?_)
        refine ⟨_, _, _, _, _, _, _, s.heap, _, rfl, W, st, hfp, by omega, hw, hk, cmpIn_lt (A := X.A.in1) hr' al (by show X.A.units + 1 + _ < _; rw [D.deps_py]; omega), fun v s' hP m => ?_⟩
        obtain ⟨h', tk, rfl, hk'⟩ := moved_old e rfl m
        have e1 : its.toArray.size - 1 = ds.length := by omega
        rw [e1] at hP
        have ebt : (fun i j => dataLt ((D.pys (x :: ds)).getD i .none) ((D.pys (x :: ds)).getD j .none)) = (fun i j => (fun y a : D => dataLt y.py a.py) ((x :: ds).getD i .non) ((x :: ds).getD j .non)) := by
          funext i j
          have : ∀ k, (D.pys (x :: ds)).getD k .none = ((x :: ds).getD k .non).py := fun k => by
            rw [pys_map, List.getD_eq_getElem?_getD, List.getD_eq_getElem?_getD, List.getElem?_map]
            cases (x :: ds)[k]? <;> rfl
          rw [this, this]
        rw [ebt] at hP
        obtain ⟨e2, e3⟩ := argBest_fold (fun y a : D => dataLt y.py a.py) D.non x ds ds.length (Nat.le_refl _)
        generalize argBest (fun i j => (fun y a : D => dataLt y.py a.py) ((x :: ds).getD i .non) ((x :: ds).getD j .non)) ds.length = k at *
        rw [List.take_length] at e3
        have w : (R.ok (List.foldl (fun a y => if (fun y a : D => dataLt y.py a.py) y a then y else a) x ds)).wp _ _ := w
        rw [← e3] at w
        have hk1 : k < (x :: ds).length := by simp; omega
        have hgd : (x :: ds)[k]? = some ((x :: ds).getD k .non) := by
          rw [List.getD_eq_getElem?_getD, List.getElem?_eq_getElem hk1]; rfl
        obtain ⟨v1, hv1, rr⟩ := r1.get hgd
        obtain ⟨u1, hu1, ru⟩ := rvs.get hv1
        have hP' : its[k]? = some v := by simpa using hP
        rw [hu1] at hP'
        cases hP'
        exact ⟨v1, H, I.kept (t' := tk) hk', ru, w v1 H F (Grow.refl dm) rr⟩
    · exact w.elim
  · exact w.elim
theorem cd_maxG (hc : X.calm = true) (hu : X.A.units + 64 < cLine) : CallR X (.builtin "max") (rC M D.maxG) := by
  intro pins s σ H vs us Q I rv ⟨F, ds, dm, r, w⟩
  unfold D.maxG at w
  split at w
  · obtain ⟨v, rfl, a, xs, rfl, h1, r1⟩ := all2_one r
    split at w
    · rename_i x ds hall
      obtain ⟨al, hpl, hdp⟩ := ordB_of hall
      obtain ⟨its, rvs, p, hz⟩ := I.list (SqL.of h1)
      cases rv with
      | cons rv rv' =>
        cases rv'
        cases rv
        obtain ⟨as, hr⟩ := reads_rows I r1 rvs hpl
        have hr' : ReadsAll s.heap its.toArray.toList (D.pys (x :: ds)) as := by simpa using hr
        have hn : its.toArray.size = ds.length + 1 := by have := r1.length; have := rvs.length; simp at *; omega
        refine call_max_walkH (iter_listW (A := X.A.in1) (I.ok.hd hc) p.isList fun s₂ e W st hfp hw hk => ?_)
        refine ⟨_, _, _, _, _, _, _, s.heap, _, rfl, W, st, hfp, by omega, hw, hk, cmpIn_gt (A := X.A.in1) hr' al (by show X.A.units + 1 + _ < _; rw [D.deps_py]; omega), fun v s' hP m => ?_⟩
        obtain ⟨h', tk, rfl, hk'⟩ := moved_old e rfl m
        have e1 : its.toArray.size - 1 = ds.length := by omega
        rw [e1] at hP
        have ebt : (fun i j => dataLt ((D.pys (x :: ds)).getD j .none) ((D.pys (x :: ds)).getD i .none)) = (fun i j => (fun y a : D => dataLt a.py y.py) ((x :: ds).getD i .non) ((x :: ds).getD j .non)) := by
          funext i j
          have : ∀ k, (D.pys (x :: ds)).getD k .none = ((x :: ds).getD k .non).py := fun k => by
            rw [pys_map, List.getD_eq_getElem?_getD, List.getD_eq_getElem?_getD, List.getElem?_map]
            cases (x :: ds)[k]? <;> rfl
          rw [this, this]
        rw [ebt] at hP
        obtain ⟨e2, e3⟩ := argBest_fold (fun y a : D => dataLt a.py y.py) D.non x ds ds.length (Nat.le_refl _)
        generalize argBest (fun i j => (fun y a : D => dataLt a.py y.py) ((x :: ds).getD i .non) ((x :: ds).getD j .non)) ds.length = k at *
        rw [List.take_length] at e3
        have w : (R.ok (List.foldl (fun a y => if (fun y a : D => dataLt a.py y.py) y a then y else a) x ds)).wp _ _ := w
        rw [← e3] at w
        have hk1 : k < (x :: ds).length := by simp; omega
        have hgd : (x :: ds)[k]? = some ((x :: ds).getD k .non) := by
          rw [List.getD_eq_getElem?_getD, List.getElem?_eq_getElem hk1]; rfl
        obtain ⟨v1, hv1, rr⟩ := r1.get hgd
        obtain ⟨u1, hu1, ru⟩ := rvs.get hv1
        have hP' : its[k]? = some v := by simpa using hP
        rw [hu1] at hP'
        cases hP'
        exact ⟨v1, H, I.kept (t' := tk) hk', ru, w v1 H F (Grow.refl dm) rr⟩
    · exact w.elim
  · exact w.elim
end
end CL

namespace CL
open PySem PySem.Spec PyProof.Rows L2
section
variable {X : Cx} {M : Md}
/-! ### [bools].index(bool) -/
def D.indexB : D → List D → R D
  | .lst l, [.bl b] => (match allBl l with | some bs => if b ∈ bs then .ok (.int (bs.idxOf b)) else .bad | none => .bad)
  | _, _ => .bad
theorem md_indexB : MtR X "list.index" (rM M "list" D.indexB) := by
  intro pins s σ H x vs v us Q I rx rv ⟨F, a, ds, dm, ra, rs, ht, w⟩
  unfold D.indexB at w
  split at w
  · rename_i l b
    obtain ⟨p, xs, rfl, h1, r1⟩ := ra
    obtain ⟨v1, rfl, r2⟩ := all2_one rs
    cases (show Rep M F H v1 _ from r2)
    split at w
    · rename_i bs hb
      split at w
      · rename_i hm
        rw [allBl_eq hb] at r1
        have e := r1.bls
        have hlt := List.idxOf_lt_length_of_mem hm
        have hg : bs[bs.idxOf b]? = some b := by rw [List.getElem?_eq_getElem hlt, List.getElem_idxOf hlt]
        refine mt_index pins s σ H _ _ v us Q I rx rv ⟨p, xs, .bl b, bs.idxOf b, .bl b, rfl, rfl, SqL.of h1, rfl, ?_, ?_, by simp [eqV], fun m z' hm' hz => ?_, w _ H F (Grow.refl dm) (.int _)⟩
        · rw [e]; simp [flatV]
        · rw [e, List.getElem?_map, hg]; rfl
        · rw [e, List.getElem?_map] at hz
          cases hq : bs[m]? with
          | none => rw [hq] at hz; cases hz
          | some c =>
            rw [hq] at hz
            cases hz
            have hml : m < bs.length := by omega
            have hc : bs[m] = c := by rw [List.getElem?_eq_getElem hml] at hq; exact Option.some.inj hq
            have := List.not_of_lt_findIdx (p := (· == b)) (xs := bs) hm'
            rw [hc] at this
            simpa [eqV] using this
      · exact w.elim
    · exact w.elim
  · exact w.elim
end
/-! ### tables of defs -/
def TabOk (P : Program) (w : World) (M : Md) (base : Heap) (k : Nat) (T : List (List Nat × (List D → R D))) : Prop := ∀ s m, T.lookup s = some m → ∃ x : Str, x.cps.toList = s ∧ FnD P w M base k x m
theorem tab_nil {P : Program} {w : World} {M : Md} {base : Heap} {k : Nat} : TabOk P w M base k [] := fun s m h => by simp at h
theorem tab_cons {P : Program} {w : World} {M : Md} {base : Heap} {j k : Nat} {T : List (List Nat × (List D → R D))} {x : Str} {m0 : List D → R D} (s0 : List Nat) (F : FnD P w M base j x m0) (h : TabOk P w M base k T) (hj : j ≤ k := by decide) (hx : x.cps.toList = s0 := by decide +kernel) : TabOk P w M base k ((s0, m0) :: T) := fun s m e => by
  rw [List.lookup_cons] at e
  split at e
  · rename_i hb
    have : s = s0 := by simpa using hb
    subst this
    cases e
    exact ⟨x, hx, F.mono hj⟩
  · exact h s m e
end CL

set_option maxHeartbeats 1000000
namespace CL
open PySem PySem.Spec PyProof.Rows L2

/-! ### a comprehension's block whose start is known -/
section
variable {X : Cx}
/-- .. behind a state with at least n tokens -/
def PEb (n : Nat) (X : Cx) (e : Expr) (t : TE) : Prop := ∀ (pins : List (Addr × Obj)) (s : Shared) (σ : L2.St) (H : Hp) (Q : VK), n ≤ s.toks → L2.Inv X pins σ H s → t σ H Q → wpAny (model X.prog X.w) X.A (eval e X.env) (EP X pins σ Q) X.xe s
theorem thnT {α : Type} {t : Sem α} {Q Q' : α → Shared → Prop} {M : Model} {A : Around} {E : Value → Shared → Prop} {s : Shared} {n : Nat} (hn : n ≤ s.toks) (h : wpAny M A t Q (fun _ _ => False) s) (hQ : ∀ a s', n ≤ s'.toks → Q a s' → Q' a s') : wpAny M A t Q' E s :=
  wpAny_mono (PySem.wpAny_toks_of hn h) (fun a s' z => hQ a s' z.1 z.2) fun _ _ z => z.2.elim
theorem lc_pm {pins : List (Addr × Obj)} {s : Shared} {σ : L2.St} {H : Hp} {Q : VK} {elt tg iter : Expr} {scope : Scope} {own : List (Str × Nat)} {pos pos' : Pos} {g : TG} {te : TE} (Pm : Shared → Prop) (pushes : ∀ (z : Shared) (ob : Obj), Pm z → Pm { z with heap := z.heap.push ob })
    (calm : X.calm = true) (nd : X.N.Nodup) (fn : ∀ x, X.fn x = true) (I : L2.Inv X pins σ H s) (ok : BlkOk X.N X.env.scope scope own)
    (hg : ∀ (s : Shared) (H : Hp) (C : Addr) (cl : List (Str × Addr)) (fp : List Addr), PG (X.blk s H scope (compEnvC scope cl C X.env) fp) tg g)
    (he : ∀ (s : Shared) (H : Hp) (C : Addr) (fp : List Addr), Pm s → (∀ x c, X.env.cells.lookup x = some c → H c = none ∧ c ∉ frs X.stack) → PEb s.toks (X.blk s H scope (compEnvC scope (cellsFrom (s.heap.objs.size + 1) scope.names (cloFrom X.env.cells scope.names [])) C X.env) fp) elt te)
    (hs : ∀ x, foldedSetIterable iter X.env x = pure x)
    (hit : wpAny (model X.prog X.w) X.A (eval iter X.env) (fun v s1 => wpAny (model X.prog X.w) X.A (pyIter v) (fun u s2 => Pm s2 ∧ PIE X pins σ tg (fun J H1 => ∀ A, H1 A = none → ∃ W : Nat → Nat → Hp → Prop, (∃ m, W 0 m (upd H1 A (.lst []))) ∧ ∀ i m H, W i m H →
      (J.stop i H ∧ Q (.ref A) H) ∨ (J.go i H ∧ ∃ Nx : Hp → Prop, (∀ H', Nx H' → ∃ m', m' < m ∧ W (i + 1) m' H') ∧ ∀ x H', J.yld i H x H' → g x (wipe σ (own.map (·.2))) H' fun σ2 H2 => wipe σ2 (own.map (·.2)) = wipe σ (own.map (·.2)) ∧
        te σ2 H2 fun y H4 => ∃ acc, H4 A = some (.lst acc) ∧ acc.length < sizeLine ∧ Nx (upd H4 A (.lst (acc ++ [y]))))) u s2) X.xe s1) X.xe s) :
    wpAny (model X.prog X.w) X.A (comprehension (.ListComp elt [⟨tg, iter, [], 0⟩] scope pos) scope X.env pos' (newList []) false (eval iter X.env) none) (EP X pins σ Q) X.xe s := by
  have fr : ∀ y ∈ scope.names, y.2 = .free → ∃ c, X.env.cells.lookup y.1 = some c := fun y hy e => (ok.free y hy e).elim (fun k => I.ok.has _ (.inl k)) fun k => I.ok.has _ (.inr k)
  refine wpAny_comprehension_free (use := none) rfl hs (closure_ok fr) ok.kind (fun y hy e => by rw [ok.uniq y hy, e]) (thn hit fun v s1 h1 => thn h1 fun u s2 h2 => ?_)
  obtain ⟨pm2, it, fp, tn, J, H2, eu, I2, T, st2, f2, q⟩ := h2
  subst eu
  refine wpAny_newObj_type (newEnv_comp ?_) (by show 0 ≤ sizeLine; decide)
  have nA : H2 s2.heap.objs.size = none := I2.hok.fresh (Nat.le_refl _)
  obtain ⟨W, ⟨m0, w0⟩, turn⟩ := q _ nA
  have I3 : L2.Inv X pins σ (upd H2 s2.heap.objs.size (.lst [])) { s2 with heap := s2.heap.push { cls := .type "list", data := .seq ([] : List Value).toArray } } :=
    I2.laid (t' := s2.toks) (fun b ob e => Heap.get?_push_of_some _ e) (Nat.le_refl _) ⟨Nat.zero_le _, [], 0, .nil, Heap.get?_push_size _ rfl⟩
  have pm3 := pushes s2 { cls := .type "list", data := .seq ([] : List Value).toArray } pm2
  have lt2 : ∀ b ∈ fp, b < s2.heap.objs.size := fun b hb => let ⟨ob, e, _⟩ := T.obj _ _ st2 b hb; Heap.lt_size e
  have f3 : ∀ b ∈ fp, FpOk X pins (upd H2 s2.heap.objs.size (.lst [])) b ∧ b < (s2.heap.push { cls := .type "list", data := .seq ([] : List Value).toArray }).objs.size := fun b hb =>
    ⟨⟨by rw [upd_ne (Nat.ne_of_lt (lt2 b hb))]; exact (f2 b hb).1, (f2 b hb).2⟩, by rw [Heap.size_push]; exact Nat.lt_succ_of_lt (lt2 b hb)⟩
  have st3 : tn 0 (s2.heap.push { cls := .type "list", data := .seq ([] : List Value).toArray }) := T.keep _ _ _ st2 fun b _ ob e => Heap.get?_push_of_some _ e
  generalize hH : upd H2 s2.heap.objs.size (.lst []) = H3 at *
  generalize hA : s2.heap.objs.size = A at *
  generalize hz : ({ s2 with heap := s2.heap.push { cls := .type "list", data := .seq ([] : List Value).toArray } } : Shared) = s3 at *
  have f3 : ∀ b ∈ fp, FpOk X pins H3 b ∧ b < s3.heap.objs.size := by subst hz; exact f3
  have st3 : tn 0 s3.heap := by subst hz; exact st3
  have I4 := block_start I3 ok nd f3
  have pg := hg s3 H3 s3.heap.objs.size (cellsFrom (s3.heap.objs.size + 1) scope.names (cloFrom X.env.cells scope.names [])) fp
  have apart : ∀ x c, X.env.cells.lookup x = some c → H3 c = none ∧ c ∉ frs X.stack := fun x c e => ⟨I3.freeC x c e, fun hm => by
    have out : c ∉ X.fs := fun hb => by
      obtain ⟨_, ob, e2, _⟩ := I3.ok.funs.mem hb
      exact absurd (Nat.lt_of_lt_of_le (Heap.lt_size e2) (I3.ok.cab x c (fn x) e)) (Nat.lt_irrefl _)
    rcases List.mem_cons.1 (I3.stkSub c hm) with z | z
    · exact I3.cne x c e z
    · exact out z⟩
  have pe := he s3 H3 s3.heap.objs.size fp pm3 apart
  show codeAny _ _ (.compStart (.ListComp elt [⟨tg, iter, [], 0⟩] scope pos) 0 (.ref it) (.ref A) (compEnvC scope (cellsFrom (s3.heap.objs.size + 1) scope.names (cloFrom X.env.cells scope.names [])) s3.heap.objs.size X.env)) (compPost (model X.prog X.w) X.A X.xe none (EP X pins σ Q) (.ref A) s3.heap.objs.size) { s3 with heap := pushCells (s3.heap.push { cls := .type "dict", data := .dict #[] }) scope.names }
  generalize hc : compEnvC scope (cellsFrom (s3.heap.objs.size + 1) scope.names (cloFrom X.env.cells scope.names [])) s3.heap.objs.size X.env = ce at I4 pg pe ⊢
  have cl : ce.locals = s3.heap.objs.size := by subst hc; rfl
  generalize h4 : ({ s3 with heap := pushCells (s3.heap.push { cls := .type "dict", data := .dict #[] }) scope.names } : Shared) = s4 at I4 ⊢
  have tk4 : s3.toks ≤ s4.toks := by subst h4; exact Nat.le_refl _
  have st4 : tn 0 s4.heap := T.keep _ _ _ st3 fun b _ ob e => by subst h4; exact pushCells_keeps _ _ _ _ (Heap.get?_push_of_some _ e)
  have at_ : ∀ {σ' : L2.St} {H' : Hp} {s' : Shared}, L2.Inv (X.blk s3 H3 scope ce fp) [] σ' H' s' → (∀ b ∈ fp, H' b = none) → ∀ b ∈ fp, FpOk (X.blk s3 H3 scope ce fp) [] H' b := fun {σ' H' s'} J' hn b hb =>
    ⟨hn b hb, (J'.ok.exf b hb).1, J'.ok.exfs b hb, .inl hb, fun x c e => (J'.ok.exf b hb).2 x c e, fun p hp => absurd (show p ∈ ([] : List (Addr × Obj)) ++ [] from hp) (by simp)⟩
  have loop : codeAny (model X.prog X.w) X.A (.compLoop (.ListComp elt [⟨tg, iter, [], 0⟩] scope pos) 0 (.ref it) (.ref A) ce) (compPost (model X.prog X.w) X.A X.xe none (EP X pins σ Q) (.ref A) s3.heap.objs.size) s4 := by
    refine compLoop_any (fun n s' => s3.toks ≤ s'.toks ∧ ∃ i H', L2.Inv (X.blk s3 H3 scope ce fp) [] (wipe σ (own.map (·.2))) H' s' ∧ tn i s'.heap ∧ (∀ b ∈ fp, H' b = none) ∧ W i n H') (fun n s5 h5 => ?_) m0 ⟨tk4, 0, H3, I4, st4, fun b hb => (f3 b hb).1.1, w0⟩
    obtain ⟨tk5, i, H5, I5, st5, n5, w5⟩ := h5
    rcases turn i n H5 w5 with ⟨stop, qq⟩ | ⟨go, Nx, hNx, step⟩
    · refine thnF (T.done (X.blk s3 H3 scope ce fp) rfl rfl rfl calm i [] s5 _ H5 (fun _ _ => False) I5 (at_ I5 n5) st5 stop) fun r s6 ⟨er, I6⟩ => ?_
      subst er
      have I7 : L2.Inv X pins σ H5 s6 := I3.call' (ch := fp) I6.os I6.base I6.hok I6.bare fun b hb => ⟨(f3 b hb).1.2.2.2.1, (f3 b hb).1.2.1, (f3 b hb).1.2.2.2.2.1, (f3 b hb).1.2.2.2.2.2⟩
      have nC : H5 s3.heap.objs.size = none := cl ▸ I6.free
      obtain ⟨m, hn, _⟩ := I6.loc
      have hn : s6.heap.Ns s3.heap.objs.size m := cl ▸ hn
      obtain ⟨g0, g1, _, g3, g4, g5⟩ := I3.fpOk (b := s3.heap.objs.size) (Nat.le_refl _) (show H3 s3.heap.objs.size = none from I3.hok.fresh (Nat.le_refl _))
      exact ⟨m, hn, fun h' sb => ⟨.ref A, H5, I7.turned (t' := s6.toks) (fun b ob hb e => (sb.2 b hb).trans e) nC g1 g3 g4 g5, rfl, qq⟩⟩
    · refine thnT tk5 (T.item (X.blk s3 H3 scope ce fp) rfl rfl rfl calm i [] s5 _ H5 (fun _ _ => False) I5 (at_ I5 n5) st5 go) fun r s6 tk6 ⟨u, er, h6⟩ => ?_
      subst er
      refine thnT tk6 h6 fun _ s7 tk7 ⟨x, H7, I7, r7, y7, st7, n7⟩ => ?_
      have J7 := I7.pinned (at_ I7 n7) (T.obj _ _ st7)
      refine thnT tk7 (pg.run _ s7 _ H7 x u _ J7 r7 (step x H7 y7)) fun _ s8 tk8 ⟨σ8, H8, I8, hw8, q8⟩ => ?_
      refine wpAny_tests_nil ?_
      simp only [if_true]
      have fin : ∀ {s' : Shared} {H' : Hp}, L2.Inv (X.blk s3 H3 scope ce fp) ([] ++ pinsAt fp s7.heap) σ8 H' s' → s3.toks ≤ s'.toks → Nx H' → ∃ m, m < n ∧ s3.toks ≤ s'.toks ∧ ∃ i H', L2.Inv (X.blk s3 H3 scope ce fp) [] (wipe σ (own.map (·.2))) H' s' ∧ tn i s'.heap ∧ (∀ b ∈ fp, H' b = none) ∧ W i m H' := fun {s' H'} J' tk' nx => by
        obtain ⟨m', hm, w'⟩ := hNx H' nx
        have pin' : ∀ b ∈ fp, ∀ ob, s7.heap.get? b = some ob → s'.heap.get? b = some ob ∧ H' b = none := fun b hb ob e =>
          let z := J'.pin (b, ob) (List.mem_append_right _ (List.mem_append_right _ (mem_pinsAt hb e))); ⟨z.1, z.2.1⟩
        refine ⟨m', hm, tk', i + 1, H', (J'.unpinned (pins := [])).weak (by rw [← hw8, wipe_length]) (fun j v e => ?_), T.keep _ _ _ st7 fun b hb ob e => (pin' b hb ob e).1, fun b hb => ?_, w'⟩
        · rw [← hw8] at e; exact (wipe_some e).1
        · obtain ⟨ob, e, _⟩ := T.obj _ _ st7 b hb
          exact (pin' b hb ob e).2
      refine thnT tk8 (pe _ s8 σ8 H8 _ tk8 I8 q8) fun z s10 tk10 ⟨yv, H10, I10, r10, acc, hD10, hz10, nx⟩ => ?_
      exact PySem.wpAny_with_toks tk10 (app_ok (X := X.blk s3 H3 scope ce fp) I10 hD10 hz10 r10 fun s11 I11 tk11 => fin I11 tk11 nx)
  exact codeAny_compStart_list loop (T.self X.A 0 _ _ _ st4 loop)
end
end CL

set_option maxHeartbeats 1000000
namespace CL
open PySem PySem.Spec PyProof.Rows L2

/-! ### text.replace(sign, '') -/
def D.strike : D → D → R D
  | .str l, .str [c] => .ok (.str (l.filter (· != c)))
  | _, _ => .bad
/-- the cell of x holds a text whose token is out -/
def Ck (X : Cx) (x : Str) (s : Shared) : Prop := ∃ (c : Addr) (y : Str) (t : Tok), X.env.cells.lookup x = some c ∧ s.heap.IsCell c (some (.str y t)) ∧ 0 < t ∧ t < s.toks
theorem Ck.push {X : Cx} {x : Str} {s : Shared} (h : Ck X x s) (ob : Obj) : Ck X x { s with heap := s.heap.push ob } :=
  let ⟨c, y, t, h1, ⟨o, h2, h3⟩, h4⟩ := h; ⟨c, y, t, h1, ⟨o, Heap.get?_push_of_some _ h2, h3⟩, h4⟩
theorem Ck.tok {X : Cx} {x : Str} {s : Shared} (h : Ck X x s) {k : Nat} (hk : s.toks ≤ k) : Ck X x { s with toks := k } :=
  let ⟨c, y, t, h1, h2, h3, h4⟩ := h; ⟨c, y, t, h1, h2, h3, Nat.lt_of_lt_of_le h4 hk⟩
section
variable {X : Cx} {M : Md} {O : List Nat}
theorem sdb_strike (il ic : Nat) {s : Shared} {H : Hp} {scope : Scope} {C : Addr} {fp : List Addr} {lx cx : Str} {j : Nat} {p1 p2 c0 apos pos : Pos} (ck : Ck X cx s) (ap : ∀ x c, X.env.cells.lookup x = some c → H c = none ∧ c ∉ frs X.stack)
    (hNl : X.N[il]? = some lx) (hNc : X.N[ic]? = some cx)
    (hvl : Vis (compEnvC scope (cellsFrom (s.heap.objs.size + 1) scope.names (cloFrom X.env.cells scope.names [])) C X.env).scope lx)
    (hcl : ∀ (n : Nat) (cs : List (Str × Addr)), (cellsFrom n scope.names (cloFrom cs scope.names [])).lookup cx = some ((cs.lookup cx).getD 0))
    (hk : (compEnvC scope (cellsFrom (s.heap.objs.size + 1) scope.names (cloFrom X.env.cells scope.names [])) C X.env).kindOf cx = some .cell ∨ (compEnvC scope (cellsFrom (s.heap.objs.size + 1) scope.names (cloFrom X.env.cells scope.names [])) C X.env).kindOf cx = some .free)
    (hO : (O.contains il) = false) (hO2 : (O.contains ic) = false)
    (hdl : (lx == ("__debug__" : Str)) = false) (hcdl : (lx == ("__classdict__" : Str)) = false) (hdc : (cx == ("__debug__" : Str)) = false) (hcdc : (cx == ("__classdict__" : Str)) = false)
    (hst : starEach [.Name cx p2, .Constant (.str "") j c0] (compEnvC scope (cellsFrom (s.heap.objs.size + 1) scope.names (cloFrom X.env.cells scope.names [])) C X.env) = [(false, eval (.Name cx p2) (compEnvC scope (cellsFrom (s.heap.objs.size + 1) scope.names (cloFrom X.env.cells scope.names [])) C X.env)), (false, eval (.Constant (.str "") j c0) (compEnvC scope (cellsFrom (s.heap.objs.size + 1) scope.names (cloFrom X.env.cells scope.names [])) C X.env))])
    (hbase : attributeBase (.Name lx p1) "replace" (compEnvC scope (cellsFrom (s.heap.objs.size + 1) scope.names (cloFrom X.env.cells scope.names [])) C X.env) (eval (.Name lx p1) (compEnvC scope (cellsFrom (s.heap.objs.size + 1) scope.names (cloFrom X.env.cells scope.names [])) C X.env)) = eval (.Name lx p1) (compEnvC scope (cellsFrom (s.heap.objs.size + 1) scope.names (cloFrom X.env.cells scope.names [])) C X.env))
    (hline : (apos.endLine == pos.line) = true) :
    PEb s.toks (X.blk s H scope (compEnvC scope (cellsFrom (s.heap.objs.size + 1) scope.names (cloFrom X.env.cells scope.names [])) C X.env) fp) (.Call (.Attribute (.Name lx p1) "replace" apos) [.Name cx p2, .Constant (.str "") j c0] [] pos) (tD M W0 O (bin D.strike (getV il) (getV ic))) := by
  intro pins s' σ H' Q htk I ⟨δ, F, E, w⟩
  obtain ⟨c, y, t, hc, ⟨oc, hoc, hdc'⟩, t0, t1⟩ := ck
  obtain ⟨hHc, hst'⟩ := ap cx c hc
  -- the slots
  cases e1 : δ[il]? with
  | none => simp [bin, getV, e1] at w; exact w.elim
  | some o1 =>
    cases o1 with
    | none => simp [bin, getV, e1] at w; exact w.elim
    | some d1 =>
      cases e2 : δ[ic]? with
      | none => simp [bin, getV, e1, e2] at w; exact w.elim
      | some o2 =>
        cases o2 with
        | none => simp [bin, getV, e1, e2] at w; exact w.elim
        | some d2 =>
          have eb : bin D.strike (getV il) (getV ic) δ = (match D.strike d1 d2 with | .ok d => R.ok d | _ => .bad) := by
            unfold bin getV
            rw [e1, e2]
            rfl
          rw [eb] at w
          unfold D.strike at w
          split at w
          · rename_i l ch heq
            split at heq
            · rename_i l' c'
              cases heq
              obtain ⟨v1, h1, r1⟩ := E.fr il _ (by intro h; simp [h] at hO) e1
              obtain ⟨v2, h2, r2⟩ := E.fr ic _ (by intro h; simp [h] at hO2) e2
              cases r1 with
              | str okl =>
                cases r2 with
                | str okc =>
                  have hcell : (compEnvC scope (cellsFrom (s.heap.objs.size + 1) scope.names (cloFrom X.env.cells scope.names [])) C X.env).cells.lookup cx = some c := by
                    have := hcl (s.heap.objs.size + 1) X.env.cells
                    rw [hc] at this
                    exact this
                  have hfp : c ∉ fp := fun hb => (I.ok.exf c hb).2 cx c hcell rfl
                  have keep : s'.heap.get? c = some oc := I.base.keep c oc hoc hHc hst' hfp
                  have isc : s'.heap.IsCell c (some (.str y t)) := ⟨oc, keep, hdc'⟩
                  -- the sign is what the slot says
                  have ey : y = ⟨#[c']⟩ := by
                    obtain ⟨m, hn, hl⟩ := I.loc
                    have vis : Vis (compEnvC scope (cellsFrom (s.heap.objs.size + 1) scope.names (cloFrom X.env.cells scope.names [])) C X.env).scope cx := .inr hk
                    obtain ⟨u, ru, lk⟩ := hl ic cx _ hNc h2 vis
                    rcases lk with ⟨hk', _⟩ | ⟨_, c2, hc2, ⟨o2, ho2, hd2⟩⟩
                    · rcases hk with q | q <;> (rw [show (X.blk s H scope (compEnvC scope (cellsFrom (s.heap.objs.size + 1) scope.names (cloFrom X.env.cells scope.names [])) C X.env) fp).env.kindOf cx = _ from q] at hk'; cases hk')
                    · have : c2 = c := Option.some.inj (hc2.symm.trans hcell)
                      subst this
                      rw [keep] at ho2
                      cases ho2
                      rw [hdc'] at hd2
                      have : u = .str y t := by
                        injection hd2 with z
                        exact (Option.some.inj z).symm
                      subst this
                      obtain ⟨t', e⟩ := ru
                      injection e
                  subst ey
                  refine PySem.Call_method2 hbase hst hline (raw_name (X := X.blk s H scope (compEnvC scope (cellsFrom (s.heap.objs.size + 1) scope.names (cloFrom X.env.cells scope.names [])) C X.env) fp) hNl hvl I h1 (fun u r => ?_) hdl hcdl)
                  obtain ⟨tx, rfl⟩ := r
                  refine ⟨"str", _, PySem.F.plainAttrs_str, PySem.F.slot_str_replace, PySem.F.type_str_replace, typeIs_str _ _ _, (fun _ e => nomatch e), Calls.callWith_builtin rfl (Calls.evalArgs_plain (Calls.spliced_cons ?_))⟩
                  have fin : wpAny (model X.prog X.w) X.A (call (.builtin "str.replace") [.str ⟨l'.toArray⟩ tx, .str ⟨#[c']⟩ t, .str "" s'.toks]) (EP (X.blk s H scope (compEnvC scope (cellsFrom (s.heap.objs.size + 1) scope.names (cloFrom X.env.cells scope.names [])) C X.env) fp) pins σ Q) (fun _ _ => False) { s' with toks := s'.toks + 1 } := by
                    have tn : t < s'.toks := Nat.lt_of_lt_of_le t1 htk
                    have hne : ((⟨#[c']⟩ : Str) == "") = false := beq_eq_false_iff_ne.2 fun e => by
                      have h1 : (1 : Nat) = 0 := congrArg (fun z : Str => z.cps.size) e
                      omega
                    refine PySem.SC.replace (Nat.ne_of_gt t0) (Nat.ne_of_gt (Nat.lt_trans t0 tn)) (Nat.ne_of_lt tn) hne ?_ fun t' k => ?_
                    · have hz : ("" : Str).length = 0 := by decide
                      rw [hz, str_len]
                      have := okl.1
                      simp only [lim] at this
                      omega
                    · have er : Txt.replace ⟨l'.toArray⟩ ⟨#[c']⟩ "" = ⟨(l'.filter (· != c')).toArray⟩ := by
                        have := PyProof.Rows.replace_strikes ⟨l'.toArray⟩ c'
                        have e0 : ("" : Str) = ⟨#[]⟩ := by decide
                        rw [e0]
                        refine str_inj ?_
                        rw [this]
                      rw [er]
                      refine ⟨.str ⟨(l'.filter (· != c')).toArray⟩, H', I.tok k, ⟨t', rfl⟩, ?_⟩
                      exact w _ H' F (Grow.refl E.dom) (.str ⟨Nat.le_trans (List.length_filter_le _ _) okl.1, fun z hz => okl.2 z (List.mem_filter.1 hz).1⟩)
                  rcases hk with q | q
                  · exact wpAny_Name (wpAny_loadName_cell I.ok.kind q hcell isc (Calls.spliced_cons (Calls.Constant_str (Calls.spliced_nil fin)))) hdc
                  · exact wpAny_Name (wpAny_loadName_free I.ok.kind q hcell isc (Calls.spliced_cons (Calls.Constant_str (Calls.spliced_nil fin))) hcdc) hdc
            · cases heq
          · exact w.elim
end
end CL

set_option maxHeartbeats 1000000
namespace CL
open PySem PySem.Spec PyProof.Rows L2

/-! ### the model is deterministic -/
theorem runs_det {M : Model} {Γ : PySem.Ctx} {p : Pos} {t : Sem Fin} {fs : List Frame} {s s' : Shared} {e : End} (h : Runs M Γ p t fs s e s') : ∀ {e2 : End} {s2 : Shared}, Runs M Γ p t fs s e2 s2 → e = e2 ∧ s' = s2 := by
  induction h with
  | done => intro e2 s2 h2; cases h2; exact ⟨rfl, rfl⟩
  | raise => intro e2 s2 h2; cases h2; exact ⟨rfl, rfl⟩
  | again q _ ih => intro e2 s2 h2; cases h2 with | again _ h => exact ih h
  | rule _ ih => intro e2 s2 h2; cases h2 with | rule h => exact ih h
  | «at» _ ih => intro e2 s2 h2; cases h2 with | «at» h => exact ih h
  | load q _ ih => intro e2 s2 h2; cases h2 with | load q2 h => rw [q] at q2; cases q2; exact ih h
  | update q _ ih => intro e2 s2 h2; cases h2 with | update _ h => exact ih h
  | loadIfAlive _ ih => intro e2 s2 h2; cases h2 with | loadIfAlive h => exact ih h
  | point _ ih => intro e2 s2 h2; cases h2 with | point h => exact ih h
  | alloc _ ih => intro e2 s2 h2; cases h2 with | alloc h => exact ih h
  | fresh _ ih => intro e2 s2 h2; cases h2 with | fresh h => exact ih h
  | ask _ ih => intro e2 s2 h2; cases h2 with | ask h => exact ih h
  | choose q _ ih => intro e2 s2 h2; cases h2 with | choose _ h => exact ih h
  | os _ ih => intro e2 s2 h2; cases h2 with | os h => exact ih h
  | handled _ ih => intro e2 s2 h2; cases h2 with | handled h => exact ih h
  | genState q _ ih => intro e2 s2 h2; cases h2 with | genState q2 h => rw [q] at q2; cases q2; exact ih h
  | stack _ ih => intro e2 s2 h2; cases h2 with | stack h => exact ih h
  | thread _ ih => intro e2 s2 h2; cases h2 with | thread h => exact ih h
  | newGen _ ih => intro e2 s2 h2; cases h2 with | newGen h => exact ih h
  | call _ _ ih1 ih2 =>
    intro e2 s2 h2
    cases h2 with
    | call a b => obtain ⟨q1, q2⟩ := ih1 a; cases q1; subst q2; exact ih2 b
    | callSusp a => obtain ⟨q1, q2⟩ := ih1 a; cases q1
  | callSusp _ ih =>
    intro e2 s2 h2
    cases h2 with
    | call a b => obtain ⟨q1, q2⟩ := ih a; cases q1
    | callSusp a => obtain ⟨q1, q2⟩ := ih a; cases q1; subst q2; exact ⟨rfl, rfl⟩
  | yield => intro e2 s2 h2; cases h2; exact ⟨rfl, rfl⟩
  | resumeFresh q _ _ _ ih1 ih2 =>
    intro e2 s2 h2
    cases h2 with
    | resumeFresh q2 a _ b => rw [q] at q2; cases q2; obtain ⟨e1, e2⟩ := ih1 a; subst e1; subst e2; exact ih2 b
    | resumeSuspended q2 _ _ _ => rw [q] at q2; cases q2
    | resumeJustStarted q2 hv _ => exact absurd rfl hv
    | resumeRunning q2 _ => rw [q] at q2; cases q2
    | resumeFinished q2 _ => rw [q] at q2; cases q2
  | resumeSuspended q _ _ _ ih1 ih2 =>
    intro e2 s2 h2
    cases h2 with
    | resumeFresh q2 a _ b => rw [q] at q2; cases q2
    | resumeSuspended q2 a _ b => rw [q] at q2; cases q2; obtain ⟨e1, e2⟩ := ih1 a; subst e1; subst e2; exact ih2 b
    | resumeJustStarted q2 hv _ => rw [q] at q2; cases q2
    | resumeThrowFresh q2 _ => rw [q] at q2; cases q2
    | resumeRunning q2 _ => rw [q] at q2; cases q2
    | resumeFinished q2 _ => rw [q] at q2; cases q2
  | resumeJustStarted q hv _ ih =>
    intro e2 s2 h2
    cases h2 with
    | resumeFresh q2 a _ b => exact absurd rfl hv
    | resumeSuspended q2 _ _ _ => rw [q] at q2; cases q2
    | resumeJustStarted q2 hv h => exact ih h
    | resumeRunning q2 _ => rw [q] at q2; cases q2
    | resumeFinished q2 _ => rw [q] at q2; cases q2
  | resumeThrowFresh q _ ih =>
    intro e2 s2 h2
    cases h2 with
    | resumeSuspended q2 _ _ _ => rw [q] at q2; cases q2
    | resumeThrowFresh q2 h => exact ih h
    | resumeRunning q2 _ => rw [q] at q2; cases q2
    | resumeFinished q2 _ => rw [q] at q2; cases q2
  | resumeRunning q _ ih =>
    intro e2 s2 h2
    cases h2 with
    | resumeFresh q2 a _ b => rw [q] at q2; cases q2
    | resumeSuspended q2 _ _ _ => rw [q] at q2; cases q2
    | resumeJustStarted q2 hv _ => rw [q] at q2; cases q2
    | resumeThrowFresh q2 h => rw [q] at q2; cases q2
    | resumeRunning q2 h => exact ih h
    | resumeFinished q2 _ => rw [q] at q2; cases q2
  | resumeFinished q _ ih =>
    intro e2 s2 h2
    cases h2 with
    | resumeFresh q2 a _ b => rw [q] at q2; cases q2
    | resumeSuspended q2 _ _ _ => rw [q] at q2; cases q2
    | resumeJustStarted q2 hv _ => rw [q] at q2; cases q2
    | resumeThrowFresh q2 h => rw [q] at q2; cases q2
    | resumeRunning q2 h => rw [q] at q2; cases q2
    | resumeFinished q2 h => exact ih h
  | segRet _ _ ih1 ih2 =>
    intro e2 s2 h2
    cases h2 with
    | segRet a b => obtain ⟨q1, q2⟩ := ih1 a; cases q1; subst q2; exact ih2 b
    | segSuspOut _ a => obtain ⟨q1, q2⟩ := ih1 a; cases q1
    | segSuspGen _ a _ _ => obtain ⟨q1, q2⟩ := ih1 a; cases q1
  | segGen _ _ ih1 ih2 =>
    intro e2 s2 h2
    cases h2 with
    | segGen a b => obtain ⟨q1, q2⟩ := ih1 a; cases q1; subst q2; exact ih2 b
    | segSuspOut _ a => obtain ⟨q1, q2⟩ := ih1 a; cases q1
    | segSuspGen _ a _ _ => obtain ⟨q1, q2⟩ := ih1 a; cases q1
  | segSuspOut hsp _ ih =>
    intro e2 s2 h2
    cases h2 with
    | segRet a b => obtain ⟨q1, q2⟩ := ih a; cases q1
    | segGen a b => obtain ⟨q1, q2⟩ := ih a; cases q1
    | segSuspOut _ a => obtain ⟨q1, q2⟩ := ih a; cases q1; subst q2; exact ⟨rfl, rfl⟩
    | segSuspGen hsp2 a _ _ => rw [hsp] at hsp2; cases hsp2
  | segSuspGen hsp _ _ _ ih1 ih2 =>
    intro e2 s2 h2
    cases h2 with
    | segRet a b => obtain ⟨q1, q2⟩ := ih1 a; cases q1
    | segGen a b => obtain ⟨q1, q2⟩ := ih1 a; cases q1
    | segSuspOut hsp2 a => rw [hsp] at hsp2; cases hsp2
    | segSuspGen hsp2 a _ b =>
      rw [hsp] at hsp2
      cases hsp2
      obtain ⟨q1, q2⟩ := ih1 a
      cases q1
      subst q2
      exact ih2 b
theorem wakes_det {M : Model} {Γ : PySem.Ctx} {p : Pos} {g : Nat} {r : Resume} {s s' s2 : Shared} {res res2 : GenResult} (h : Wakes M Γ p g r s res s') (h2 : Wakes M Γ p g r s res2 s2) : res = res2 ∧ s' = s2 := by
  unfold Wakes at h h2
  cases hg : s.gens[g]? with
  | none => rw [hg] at h; exact h.elim
  | some st =>
    rw [hg] at h h2
    have two : ∀ {x y : GenResult} {a b : Shared}, res = x ∧ s' = a → res2 = x ∧ s2 = a → res = res2 ∧ s' = s2 := fun h h2 => by rw [h.1, h.2, h2.1, h2.2]; exact ⟨rfl, rfl⟩
    have run : ∀ {Γ : PySem.Ctx} {p : Pos} {t : Sem Fin} {fs : List Frame} {z : Shared}, (∃ e₁ s₁, Runs M Γ p t fs z e₁ s₁ ∧ e₁.quiet = true ∧ res = e₁.result ∧ s' = s₁.setGen g e₁.genState) → (∃ e₁ s₁, Runs M Γ p t fs z e₁ s₁ ∧ e₁.quiet = true ∧ res2 = e₁.result ∧ s2 = s₁.setGen g e₁.genState) → res = res2 ∧ s' = s2 := fun h h2 => by
      obtain ⟨e1, s1, hr, _, e3, e4⟩ := h
      obtain ⟨e2, s2, hr2, _, e5, e6⟩ := h2
      obtain ⟨a, b⟩ := runs_det hr hr2
      subst a; subst b
      rw [e3, e4, e5, e6]; exact ⟨rfl, rfl⟩
    cases st with
    | fresh c =>
      cases r with
      | send v =>
        by_cases hv : v = .none
        · subst hv; exact run h h2
        · cases v <;> first | exact absurd rfl hv | exact two (y := res) (b := s) h h2
      | throw x => exact two (y := res) (b := s) h h2
    | suspended a b c d e f => exact run h h2
    | running => exact two (y := res) (b := s) h h2
    | finished => exact two (y := res) (b := s) h h2
theorem wp_both {α : Type} (M : Model) (Γ : PySem.Ctx) (t : Sem α) : ∀ (Q Q' : α → Pos → Shared → Prop) (E E' : Value → Pos → Shared → Prop) (p : Pos) (s : Shared), Sem.wp M Γ t Q E p s → Sem.wp M Γ t Q' E' p s →
    Sem.wp M Γ t (fun a p' s' => Q a p' s' ∧ Q' a p' s') (fun e p' s' => E e p' s' ∧ E' e p' s') p s := by
  induction t with
  | pure a => intro Q Q' E E' p s h h2; exact ⟨h, h2⟩
  | raise e => intro Q Q' E E' p s h h2; exact ⟨h, h2⟩
  | unsupported _ => intro Q Q' E E' p s h h2; exact h
  | finish _ => intro Q Q' E E' p s h h2; exact h
  | rule _ k ih => intro Q Q' E E' p s h h2; exact ih () Q Q' E E' p s h h2
  | «at» p' k ih => intro Q Q' E E' p s h h2; exact ih () Q Q' E E' p' s h h2
  | load a _ k ih => intro Q Q' E E' p s h h2; obtain ⟨o, ho, h⟩ := h; obtain ⟨o2, ho2, h2⟩ := h2; rw [ho] at ho2; cases ho2; exact ⟨o, ho, ih o Q Q' E E' p s h h2⟩
  | update a _ f k ih => intro Q Q' E E' p s h h2; exact ⟨h.1, ih () Q Q' E E' p _ h.2 h2.2⟩
  | loadIfAlive a k ih => intro Q Q' E E' p s h h2; exact ih _ Q Q' E E' p s h h2
  | point _ k ih => intro Q Q' E E' p s h h2; exact ih () Q Q' E E' p s h h2
  | register _ _ => intro Q Q' E E' p s h h2; exact h
  | alloc o k ih => intro Q Q' E E' p s h h2; exact ih _ Q Q' E E' p _ h h2
  | fresh k ih => intro Q Q' E E' p s h h2; exact ih _ Q Q' E E' p _ h h2
  | ask k ih => intro Q Q' E E' p s h h2; exact ih _ Q Q' E E' p s h h2
  | choose src m k ih => intro Q Q' E E' p s h h2; exact ⟨h.1, ih _ Q Q' E E' p _ h.2 h2.2⟩
  | os q _ k ih => intro Q Q' E E' p s h h2; exact ih _ Q Q' E E' p _ h h2
  | call c hd _ _ k ih =>
    intro Q Q' E E' p s h h2
    obtain ⟨r, s', hr, h⟩ := h
    obtain ⟨r2, s2, hr2, h2⟩ := h2
    obtain ⟨a, b⟩ := runs_det hr hr2
    cases a; subst b
    exact ⟨r, s', hr, ih r Q Q' E E' p s' h h2⟩
  | handled own k ih => intro Q Q' E E' p s h h2; exact ih _ Q Q' E E' p s h h2
  | genState g k ih => intro Q Q' E E' p s h h2; obtain ⟨st, hs, h⟩ := h; obtain ⟨st2, hs2, h2⟩ := h2; rw [hs] at hs2; cases hs2; exact ⟨st, hs, ih _ Q Q' E E' p s h h2⟩
  | newGen c k ih => intro Q Q' E E' p s h h2; exact ih _ Q Q' E E' p _ h h2
  | resume g r _ k ih =>
    intro Q Q' E E' p s h h2
    obtain ⟨r, s', hr, h⟩ := h
    obtain ⟨r2, s2, hr2, h2⟩ := h2
    obtain ⟨a, b⟩ := wakes_det hr hr2
    subst a; subst b
    exact ⟨r, s', hr, ih r Q Q' E E' p s' h h2⟩
  | yield _ _ _ _ => intro Q Q' E E' p s h h2; exact h
  | stack k ih => intro Q Q' E E' p s h h2; exact ih _ Q Q' E E' p s h h2
  | fork _ _ => intro Q Q' E E' p s h h2; exact h
  | thread k ih => intro Q Q' E E' p s h h2; exact ih _ Q Q' E E' p s h h2
  | await _ _ _ _ _ => intro Q Q' E E' p s h h2; exact h
theorem wpAny_both {α : Type} {M : Model} {A : Around} {t : Sem α} {Q Q' : α → Shared → Prop} {E E' : Value → Shared → Prop} {s : Shared} (h : wpAny M A t Q E s) (h2 : wpAny M A t Q' E' s) : wpAny M A t (fun a s' => Q a s' ∧ Q' a s') E s :=
  fun Γ p hΓ => by
    have := wp_both M Γ t _ _ _ _ p s (h Γ p hΓ) (h2 Γ p hΓ)
    have m : wpAny M A t (fun a s' => Q a s' ∧ Q' a s') (fun e s' => E e s' ∧ E' e s') s := fun Γ p hΓ => wp_both M Γ t _ _ _ _ p s (h Γ p hΓ) (h2 Γ p hΓ)
    exact wpAny_mono m (fun _ _ z => z) (fun _ _ z => z.1) Γ p hΓ
end CL

set_option maxHeartbeats 1000000
namespace CL
open PySem PySem.Spec PyProof.Rows L2

/-! ### a local whose text's token is out -/
def Tl (X : Cx) (x : Str) (s : Shared) : Prop := ∃ m y t, s.heap.Ns X.env.locals m ∧ m x = some (.str y t) ∧ 0 < t ∧ t < s.toks
section
variable {X : Cx} {pins : List (Addr × Obj)} {σ : L2.St} {H H' : Hp} {s s' : Shared}
theorem ns_un (I : L2.Inv X pins σ H s) (u : Un (frs X.stack) [] H H' s.heap s'.heap) {m : Str → Option Value} (hn : s.heap.Ns X.env.locals m) : s'.heap.Ns X.env.locals m := by
  obtain ⟨o, es, ep, h1, h2, h3, h4⟩ := hn
  obtain ⟨sl, e⟩ := u.any h1 I.free (by simp)
  exact ⟨_, es, ep, e, h2, h3, h4⟩
theorem Tl.un {x : Str} (h : Tl X x s) (I : L2.Inv X pins σ H s) (u : Un (frs X.stack) [] H H' s.heap s'.heap) (tk : s.toks ≤ s'.toks) : Tl X x s' :=
  let ⟨m, y, t, h1, h2, h3, h4⟩ := h; ⟨m, y, t, ns_un I u h1, h2, h3, Nat.lt_of_lt_of_le h4 tk⟩
end

/-! ### what an expression leaves as it was -/
def EU (X : Cx) (pins : List (Addr × Obj)) (σ : L2.St) (H : Hp) (s : Shared) (Q : VK) (u : Value) (s' : Shared) : Prop := ∃ v H', L2.Inv X pins σ H' s' ∧ RelV v u ∧ Q v H' ∧ Un (frs X.stack) [] H H' s.heap s'.heap ∧ s.toks ≤ s'.toks
def TU (X : Cx) (pins : List (Addr × Obj)) (σ : L2.St) (H : Hp) (s : Shared) (Q : Bool → Hp → Prop) (b : Bool) (s' : Shared) : Prop := ∃ H', L2.Inv X pins σ H' s' ∧ Q b H' ∧ Un (frs X.stack) [] H H' s.heap s'.heap ∧ s.toks ≤ s'.toks
def AU (X : Cx) (pins : List (Addr × Obj)) (σ : L2.St) (H : Hp) (s : Shared) (Q : List V → Hp → Prop) (us : List Value) (s' : Shared) : Prop := ∃ vs H', L2.Inv X pins σ H' s' ∧ Vals vs us ∧ Q vs H' ∧ Un (frs X.stack) [] H H' s.heap s'.heap ∧ s.toks ≤ s'.toks
structure PEu (X : Cx) (e : Expr) (t : TE) : Prop where
  run : ∀ (pins : List (Addr × Obj)) (s : Shared) (σ : L2.St) (H : Hp) (Q : VK), L2.Inv X pins σ H s → t σ H Q → wpAny (model X.prog X.w) X.A (eval e X.env) (EU X pins σ H s Q) X.xe s
structure PTu (X : Cx) (e : Expr) (t : TT) : Prop where
  run : ∀ (pins : List (Addr × Obj)) (s : Shared) (σ : L2.St) (H : Hp) (Q : Bool → Hp → Prop), L2.Inv X pins σ H s → t σ H Q → wpAny (model X.prog X.w) X.A (isTrue e X.env (eval e X.env)) (TU X pins σ H s Q) X.xe s
structure PAu (X : Cx) (es : List Expr) (t : TA) : Prop where
  run : ∀ (pos : Pos) (pins : List (Addr × Obj)) (s : Shared) (σ : L2.St) (H : Hp) (Q : List V → Hp → Prop), L2.Inv X pins σ H s → t σ H Q → wpAny (model X.prog X.w) X.A (spliced (backTo pos (starEach es X.env))) (AU X pins σ H s Q) X.xe s
theorem peu_imp {X : Cx} {e : Expr} {t t' : TE} (h : PEu X e t) (i : ∀ σ H Q, t' σ H Q → t σ H Q) : PEu X e t' := ⟨fun pins s σ H Q I q => h.run pins s σ H Q I (i σ H Q q)⟩
theorem ptu_imp {X : Cx} {e : Expr} {t t' : TT} (h : PTu X e t) (i : ∀ σ H Q, t' σ H Q → t σ H Q) : PTu X e t' := ⟨fun pins s σ H Q I q => h.run pins s σ H Q I (i σ H Q q)⟩
theorem pau_imp {X : Cx} {e : List Expr} {t t' : TA} (h : PAu X e t) (i : ∀ σ H Q, t' σ H Q → t σ H Q) : PAu X e t' := ⟨fun pos pins s σ H Q I q => h.run pos pins s σ H Q I (i σ H Q q)⟩
theorem PEu.pe {X : Cx} {e : Expr} {t : TE} (h : PEu X e t) : PE X e t := ⟨fun pins s σ H Q I q => thn (h.run pins s σ H Q I q) fun v s' ⟨x, H', a, b, c, _⟩ => ⟨x, H', a, b, c⟩⟩
section
variable {X : Cx} {x : Str} {pos p : Pos}
theorem peu_var {i : Nat} (hN : X.N[i]? = some x) (hv : Vis X.env.scope x) (hd : (x == ("__debug__" : Str)) = false := by decide) (hcd : (x == ("__classdict__" : Str)) = false := by decide) : PEu X (.Name x pos) (tVar i) :=
  ⟨fun pins s σ H Q I ⟨v, e, h⟩ => raw_name hN hv I e (fun u r => ⟨v, H, I, r, h, Un.refl, Nat.le_refl _⟩) hd hcd⟩
theorem pau_nil : PAu X [] tNil := ⟨fun _ _ _ _ H Q I h => Calls.spliced_nil ⟨[], H, I, .nil, h, Un.refl, Nat.le_refl _⟩⟩
theorem pau_cons {e : Expr} {es : List Expr} {te : TE} {ta : TA} (ha : PEu X e te) (hr : PAu X es ta) (hs : starEach (e :: es) X.env = (false, eval e X.env) :: starEach es X.env := by rfl) : PAu X (e :: es) (tCons te ta) := by
  refine ⟨fun pos pins s σ H Q I h => ?_⟩
  rw [hs]
  show wpAny _ _ (spliced ((false, eval e X.env) :: backTo pos (starEach es X.env))) _ _ s
  refine Calls.spliced_cons (thn (ha.run pins s σ H _ I h) fun v s1 ⟨x, H1, I1, r1, q1, u1, t1⟩ => ?_)
  exact thn (hr.run pos pins s1 σ H1 _ I1 q1) fun us s2 ⟨xs, H2, I2, r2, q2, u2, t2⟩ => ⟨x :: xs, H2, I2, .cons r1 r2, q2, u1.trans u2, Nat.le_trans t1 t2⟩
theorem peu_call {k : Nat} {f : Addr} {fd : FuncData} {ps : List Str} {sp : Sp} {CX : CXT} {E : L2.St → XK} {e : Expr} {es : List Expr} {t : TA} (F : FnOk X.prog X.w X.K X.mg X.base CX k f fd ps sp) (hr : Room k X.A) (hg : Gl X x) (hm : X.mg x = some (.ref f)) (hk : PySem.W.keepIn X.K (.ref f) = true) (hb : Binds X.K fd ps []) (hx : ∀ σ, PassesAt CX X σ (E σ))
    (ha : PAu X (e :: es) t) (hdb : (x == ("__debug__" : Str)) = false := by decide) (he : starEach (e :: es) X.env = (false, eval e X.env) :: starEach es X.env := by rfl) (hpl : (backTo pos (starEach es X.env)).any (·.1) = false := by rfl) :
    PEu X (.Call (.Name x p) (e :: es) [] pos) (tCallS sp E t) := by
  refine ⟨fun pins s σ H Q I h => ?_⟩
  refine wpAny_Call_Name_kw (ld_glob I hg hm ?_ hdb)
  refine PySem.W.callWith_K (h₀ := X.base) I.ok.mod.kin hk (thn (ha.run pos pins s σ H _ I h) fun us s1 ⟨vs, H1, I1, r, q, u1, t1⟩ => ⟨I1.kIn, ?_⟩) he hpl
  have hl : us.length = ps.length := by rw [← r.length]; exact F.len _ _ _ _ q
  have b := hb s1 us I1.kIn (by rw [List.append_nil]; exact hl)
  rw [List.append_nil] at b
  refine wpAny_call (codeAny_with_toks (Nat.le_refl s1.toks) (codeAny_mono (F.run X.A X.stack s1 H1 ⟨us, []⟩ us vs Q (E σ) hr I1.env0 b r q) fun r s' hq tk => ?_))
  cases r with
  | error e => exact hx σ pins H1 s1 e s' I1 hq
  | ok fl =>
    cases fl with
    | ret u =>
      obtain ⟨v2, H2, os, bare, un, hok, r2, q2⟩ := hq
      obtain ⟨v, H', I', r', q'⟩ := I1.after (Q := fun v H' => v = v2 ∧ H' = H2) ⟨v2, H2, os, bare, un, hok, r2, rfl, rfl⟩
      obtain ⟨rfl, rfl⟩ := q'
      exact ⟨v, H', I', r', q2, u1.trans un, Nat.le_trans t1 tk⟩
    | next => exact False.elim hq
    | brk => exact False.elim hq
    | cont => exact False.elim hq
/-- a text compared with a written one -/
def tCmpS (k : Bool) (ta : TE) (y : Str) : TT := fun σ H Q => ta σ H fun v H1 => ∃ z, v = .str z ∧ Q ((z.cps.toList == y.cps.toList) == k) H1
theorem ptu_ne {a : Expr} {ta : TE} {y : Str} {j : Nat} {cp : Pos} (ha : PEu X a ta) (hm : behindInMarks .NotEq (.Constant (.str y) j cp) = false := by rfl) : PTu X (.Compare a [.NotEq] [.Constant (.str y) j cp] pos) (tCmpS false ta y) := by
  refine ⟨fun pins s σ H Q I h => ?_⟩
  refine wpAny_isTrue_Compare1 (thn (ha.run pins s σ H _ I h) fun v s1 ⟨x, H1, I1, r1, ⟨z, e, q⟩, u1, t1⟩ => ?_) hm
  subst e
  obtain ⟨t, rfl⟩ := r1
  refine Calls.Constant_str (PySem.P.ne_str (wpAny_truthy_bool ⟨H1, I1.tok _, ?_, u1, Nat.le_succ_of_le t1⟩))
  have : (z.cps.toList != y.cps.toList) = ((z.cps.toList == y.cps.toList) == false) := by
    show (!(z.cps.toList == y.cps.toList)) = _
    generalize (z.cps.toList == y.cps.toList) = b
    cases b <;> rfl
  rw [this]; exact q
theorem ptu_eq {a : Expr} {ta : TE} {y : Str} {j : Nat} {cp : Pos} (ha : PEu X a ta) (hm : behindInMarks .Eq (.Constant (.str y) j cp) = false := by rfl) : PTu X (.Compare a [.Eq] [.Constant (.str y) j cp] pos) (tCmpS true ta y) := by
  refine ⟨fun pins s σ H Q I h => ?_⟩
  refine wpAny_isTrue_Compare1 (thn (ha.run pins s σ H _ I h) fun v s1 ⟨x, H1, I1, r1, ⟨z, e, q⟩, u1, t1⟩ => ?_) hm
  subst e
  obtain ⟨t, rfl⟩ := r1
  refine Calls.Constant_str (PySem.P.eq_str (wpAny_truthy_bool ⟨H1, I1.tok _, ?_, u1, Nat.le_succ_of_le t1⟩))
  have : ((z.cps.toList == y.cps.toList) == true) = (z.cps.toList == y.cps.toList) := by
    generalize (z.cps.toList == y.cps.toList) = b
    cases b <;> rfl
  rw [this] at q; exact q
end
end CL

set_option maxHeartbeats 1000000
namespace CL
open PySem PySem.Spec PyProof.Rows L2

/-! ### statements behind a known start -/
structure PSq (P : Shared → Prop) (X : Cx) (sts : List Stmt) (t : TS) : Prop where
  run : ∀ (pins : List (Addr × Obj)) (s : Shared) (σ : L2.St) (H : Hp) (D : Ends), P s → L2.Inv X pins σ H s → t D σ H → wpAny (model X.prog X.w) X.A (execs sts X.env) (SP X pins D) X.xe s
structure PS1 (P : Shared → Prop) (X : Cx) (st : Stmt) (t : TS) : Prop where
  run : ∀ (pins : List (Addr × Obj)) (s : Shared) (σ : L2.St) (H : Hp) (D : Ends), P s → L2.Inv X pins σ H s → t D σ H → wpAny (model X.prog X.w) X.A (exec st X.env) (SP X pins D) X.xe s
structure PEq (P : Shared → Prop) (X : Cx) (e : Expr) (t : TE) : Prop where
  run : ∀ (pins : List (Addr × Obj)) (s : Shared) (σ : L2.St) (H : Hp) (Q : VK), P s → L2.Inv X pins σ H s → t σ H Q → wpAny (model X.prog X.w) X.A (eval e X.env) (EP X pins σ Q) X.xe s
theorem psq_imp {P : Shared → Prop} {X : Cx} {st : List Stmt} {t t' : TS} (h : PSq P X st t) (i : ∀ E σ H, t' E σ H → t E σ H) : PSq P X st t' := ⟨fun pins s σ H Q p I q => h.run pins s σ H Q p I (i Q σ H q)⟩
theorem ps1_imp {P : Shared → Prop} {X : Cx} {st : Stmt} {t t' : TS} (h : PS1 P X st t) (i : ∀ E σ H, t' E σ H → t E σ H) : PS1 P X st t' := ⟨fun pins s σ H Q p I q => h.run pins s σ H Q p I (i Q σ H q)⟩
theorem peq_imp {P : Shared → Prop} {X : Cx} {e : Expr} {t t' : TE} (h : PEq P X e t) (i : ∀ σ H Q, t' σ H Q → t σ H Q) : PEq P X e t' := ⟨fun pins s σ H Q p I q => h.run pins s σ H Q p I (i σ H Q q)⟩
theorem PSq.of {P : Shared → Prop} {X : Cx} {sts : List Stmt} {t : TS} (h : PSs X sts t) : PSq P X sts t := ⟨fun pins s σ H D _ I q => h.run pins s σ H D I q⟩
theorem PS1.of {P : Shared → Prop} {X : Cx} {sts : Stmt} {t : TS} (h : PS X sts t) : PS1 P X sts t := ⟨fun pins s σ H D _ I q => h.run pins s σ H D I q⟩
theorem PEq.of {P : Shared → Prop} {X : Cx} {e : Expr} {t : TE} (h : PE X e t) : PEq P X e t := ⟨fun pins s σ H D _ I q => h.run pins s σ H D I q⟩
/-- a token is out -/
abbrev T1 : Shared → Prop := fun s => 1 ≤ s.toks
section
variable {X : Cx} {x y : Str} {i : Nat} {e c : Expr} {te : TE} {tc : TT} {rest a : List Stmt} {u ta : TS} {p' pos : Pos} {P : Shared → Prop}
theorem store_tl {pins : List (Addr × Obj)} {s : Shared} {σ : L2.St} {H : Hp} {v : V} {w : Value} {E : Value → Shared → Prop} (hN : X.N.Nodup) (hi : X.N[i]? = some y) (hy : X.env.scope.names.lookup y = some .local) (hne : x ≠ y) (T : Tl X x s) (I : L2.Inv X pins σ H s) (r : RelV v w) :
    wpAny (model X.prog X.w) X.A (storeName X.env y w) (fun _ s2 => L2.Inv X pins (σ.set i (some v)) H s2 ∧ Tl X x s2) E s := by
  obtain ⟨m, z, t, hn, hm, h0, h1⟩ := T
  have hcls : (X.env.scope.kind == .class || (X.env.scope.kind == .module && X.env.locals != X.env.globals)) = false := by rw [I.ok.kind]; rfl
  refine wpAny_both (E' := fun _ _ => False) (store_ok (Q := fun _ s2 => L2.Inv X pins (σ.set i (some v)) H s2) I hN hi (.inl hy) r (fun _ I' => I') (.inr hy)) ?_
  exact wpAny_storeName_local hy hn (fun h' hn' _ => ⟨_, z, t, hn', by simp only [if_neg hne]; exact hm, h0, Nat.lt_succ_of_lt h1⟩) hcls
theorem psq_set (hN : X.N.Nodup) (hi : X.N[i]? = some y) (hy : X.env.scope.names.lookup y = some .local) (hne : x ≠ y) (he : PEu X e te) (hr : PSq (Tl X x) X rest u) (hs : swapsWith e (some (.Name y p')) pos.line X.env = pure false) :
    PSq (Tl X x) X (.Assign [.Name y p'] e pos :: rest) (tSeq (tAsg te (gName i)) u) := by
  refine ⟨fun pins s σ H D T I h => ?_⟩
  refine wpAny_execs_cons (wpAny_Assign_Name (thn (he.run pins s σ H _ I h) fun v s1 ⟨w, H1, I1, r1, q1, u1, t1⟩ => ?_) hs)
  exact thn (store_tl hN hi hy hne (T.un I u1 t1) I1 r1) fun _ s2 ⟨I2, T2⟩ => hr.run pins s2 _ H1 D T2 I2 q1
theorem psq_if (hc : PTu X c tc) (ha : PSs X a ta) (hr : PSq (Tl X x) X rest u) : PSq (Tl X x) X (.If c a [] pos :: rest) (fun D σ H => tc σ H fun b H1 => if b = true then ta { D with nx := fun _ _ => False } σ H1 else u D σ H1) := by
  refine ⟨fun pins s σ H D T I h => ?_⟩
  refine wpAny_execs_cons (wpAny_If (thn (hc.run pins s σ H _ I h) fun b s1 ⟨H1, I1, q1, u1, t1⟩ => ?_))
  cases b with
  | true =>
    refine thn (ha.run pins s1 σ H1 _ I1 q1) fun f s2 h2 => ?_
    cases f with
    | next => obtain ⟨_, _, _, z⟩ := h2; exact z.elim
    | ret v => exact h2
    | brk => exact h2
    | cont => exact h2
  | false => exact wpAny_execs_nil (hr.run pins s1 σ H1 D (T.un I u1 t1) I1 q1)
theorem psq_setR (hN : X.N.Nodup) (hi : X.N[i]? = some y) (hy : Loc X.env.scope y) (he : PEq P X e te) (hr : PSs X rest u) (hs : swapsWith e (some (.Name y p')) pos.line X.env = pure false) (hf : X.fn y = true ∨ X.env.scope.names.lookup y = some .local) :
    PSq P X (.Assign [.Name y p'] e pos :: rest) (tSeq (tAsg te (gName i)) u) := by
  refine ⟨fun pins s σ H D T I h => ?_⟩
  refine wpAny_execs_cons (wpAny_Assign_Name (thn (he.run pins s σ H _ T I h) fun v s1 ⟨w, H1, I1, r1, q1⟩ => ?_) hs)
  exact store_ok I1 hN hi hy r1 (fun s2 I2 => hr.run pins s2 _ H1 D I2 q1) hf
theorem peq_ifExp {a b : Expr} {ta tb : TE} (hc : PTu X c tc) (ha : PEq (Tl X x) X a ta) (hb : PE X b tb) : PEq (Tl X x) X (.IfExp c a b pos) (tIf tc ta tb) := by
  refine ⟨fun pins s σ H Q T I h => ?_⟩
  refine wpAny_IfExp (thn (hc.run pins s σ H _ I h) fun d s1 ⟨H1, I1, q1, u1, t1⟩ => ?_)
  cases d with
  | true => exact ha.run pins s1 σ H1 Q (T.un I u1 t1) I1 q1
  | false => exact hb.run pins s1 σ H1 Q I1 q1
/-! one token is out -/
theorem psq_cons1 {st : Stmt} {t : TS} (h1 : PS1 T1 X st t) (h2 : PSq T1 X rest u) : PSq T1 X (st :: rest) (tSeq t u) := by
  refine ⟨fun pins s σ H D h0 I h => ?_⟩
  refine wpAny_execs_cons (wpAny_mono (PySem.wpAny_toks (h1.run pins s σ H { D with nx := u D } h0 I h)) (fun f s1 q => ?_) fun _ _ x => x.2)
  obtain ⟨hk, q⟩ := q
  cases f with
  | next =>
    obtain ⟨σ', H', I', q⟩ := q
    exact h2.run pins s1 σ' H' D (Nat.le_trans h0 hk) I' q
  | ret v => exact q
  | brk => exact q
  | cont => exact q
/-- a local is stored: a token is out -/
theorem psq_out (hN : X.N.Nodup) (hi : X.N[i]? = some y) (hy : X.env.scope.names.lookup y = some .local) (he : PE X e te) (hr : PSq T1 X rest u) (hs : swapsWith e (some (.Name y p')) pos.line X.env = pure false) :
    PSs X (.Assign [.Name y p'] e pos :: rest) (tSeq (tAsg te (gName i)) u) := by
  refine ⟨fun pins s σ H D I h => ?_⟩
  refine wpAny_execs_cons (wpAny_Assign_Name (thn (he.run pins s σ H _ I h) fun v s1 ⟨w, H1, I1, r1, q1⟩ => ?_) hs)
  obtain ⟨m, hn, _⟩ := I1.loc
  have hcls : (X.env.scope.kind == .class || (X.env.scope.kind == .module && X.env.locals != X.env.globals)) = false := by rw [I1.ok.kind]; rfl
  have st := wpAny_both (E' := fun _ _ => False) (store_ok (M := model X.prog X.w) (A := X.A) (E := X.xe) (Q := fun _ s2 => L2.Inv X pins (σ.set i (some w)) H1 s2) I1 hN hi (.inl hy) r1 (fun _ I' => I') (.inr hy)) (wpAny_storeName_local (Q := fun _ s2 => 1 ≤ s2.toks) hy hn (fun h' hn' _ => Nat.succ_le_succ (Nat.zero_le _)) hcls)
  exact thn st fun _ s2 ⟨I2, T2⟩ => hr.run pins s2 _ H1 D T2 I2 q1
/-- for, a token is out -/
theorem ps1_for {tg iter : Expr} {body : List Stmt} {wi : TI} {g : TG} {tb : TS} (hp : PassesOwn (model X.prog X.w) X.A X.env X.xe) (hc : X.calm = true) (hi : PI X tg iter wi) (hg : PG X tg g) (hb : PSq T1 X body tb)
    (hs : ∀ x, foldedSetIterable iter X.env x = pure x := by intro _; rfl) : PS1 T1 X (.For tg iter body [] pos) (tFor wi g tb) := by
  refine ⟨fun pins s σ H D h0 I h => ?_⟩
  have it : wpAny (model X.prog X.w) X.A (eval iter X.env) (fun v s1 => 1 ≤ s1.toks ∧ wpAny (model X.prog X.w) X.A (pyIter v) (PIE X pins σ tg _) X.xe s1) X.xe s := wpAny_mono (PySem.wpAny_toks_of h0 (hi.run pins s σ H _ I h)) (fun _ _ z => z) fun _ _ z => z.2
  refine wpAny_For (thn it fun v s1 ⟨k1, h1⟩ => wpAny_mono (PySem.wpAny_toks_of k1 h1) (fun itv s2 h2 => ?_) fun _ _ z => z.2) hs
  obtain ⟨k2, it, fp, tn, J, H2, e, I2, T, st2, f2, W, ⟨m0, w0⟩, turn⟩ := h2
  subst e
  have stat : ∀ {H' : Hp}, (∀ b ∈ fp, H' b = none) → ∀ b ∈ fp, FpOk X pins H' b := fun hn b hb => ⟨hn b hb, (f2 b hb).2⟩
  refine codeAny_forLoop_any (fun n s' => 1 ≤ s'.toks ∧ ∃ i σ' H', L2.Inv X pins σ' H' s' ∧ tn i s'.heap ∧ (∀ b ∈ fp, H' b = none) ∧ W i n σ' H') ?_ m0 ⟨k2, 0, σ, H2, I2, st2, fun b hb => (f2 b hb).1, w0⟩
  rintro n s3 ⟨k3, i, σ3, H3, I3, st3, fr3, w3⟩
  have tkM : ∀ {α : Type} {t : Sem α} {Q Q' : α → Shared → Prop} {E : Value → Shared → Prop} {s : Shared}, 1 ≤ s.toks → wpAny (model X.prog X.w) X.A t Q E s → (∀ a s, 1 ≤ s.toks → Q a s → Q' a s) → wpAny (model X.prog X.w) X.A t Q' E s := fun k h hq => wpAny_mono (PySem.wpAny_toks_of k h) (fun a s z => hq a s z.1 z.2) fun _ _ z => z.2
  rcases turn i n σ3 H3 w3 with ⟨stop, qn⟩ | ⟨go, N, hN, step⟩
  · refine wpAny_passesOwn hp (thn (T.done X rfl rfl rfl hc i pins s3 σ3 H3 X.xe I3 (stat fr3) st3 stop) fun r s4 ⟨hr, I4⟩ => ?_)
    subst hr
    exact wpAny_execs_nil ⟨σ3, H3, I4, qn⟩
  · refine wpAny_passesOwn hp (tkM k3 (T.item X rfl rfl rfl hc i pins s3 σ3 H3 X.xe I3 (stat fr3) st3 go) fun r s4 k4 ⟨u, hr, h4⟩ => ?_)
    subst hr
    refine wpAny_passesOwn hp (tkM k4 h4 fun _ s5 k5 ⟨x, H5, I5, r5, y5, st5, fr5⟩ => ?_)
    have I5' := I5.pinned (stat fr5) (T.obj _ _ st5)
    refine wpAny_passesOwn hp (tkM k5 (hg.run _ s5 σ3 H5 x u _ I5' r5 (step x H5 y5)) fun _ s6 k6 ⟨σ6, H6, I6, q6⟩ => ?_)
    refine wpAny_passesOwn hp (tkM k6 (hb.run _ s6 σ6 H6 _ k6 I6 q6) fun f s7 k7 q7 => ?_)
    have again : ∀ {σ7 : L2.St} {H7 : Hp}, L2.Inv X (pins ++ pinsAt fp s5.heap) σ7 H7 s7 → N σ7 H7 → ∃ m, m < n ∧ 1 ≤ s7.toks ∧ ∃ i σ' H', L2.Inv X pins σ' H' s7 ∧ tn i s7.heap ∧ (∀ b ∈ fp, H' b = none) ∧ W i m σ' H' := fun {σ7 H7} I7 n7 => by
      obtain ⟨m', hm, w7⟩ := hN σ7 H7 n7
      refine ⟨m', hm, k7, i + 1, σ7, H7, I7.unpinned, T.keep _ _ _ st5 fun b hb o e => (I7.pin (b, o) (List.mem_append_right _ (List.mem_append_right _ (mem_pinsAt hb e)))).1, fun b hb => ?_, w7⟩
      obtain ⟨o, e, d⟩ := T.obj _ _ st5 b hb
      exact (I7.pin (b, o) (List.mem_append_right _ (List.mem_append_right _ (mem_pinsAt hb e)))).2.1
    cases f with
    | next => obtain ⟨σ7, H7, I7, n7⟩ := q7; exact again I7 n7
    | cont => obtain ⟨σ7, H7, I7, n7⟩ := q7; exact again I7 n7
    | brk => obtain ⟨σ7, H7, I7, q7⟩ := q7; exact ⟨σ7, H7, I7.unpinned, q7⟩
    | ret v => obtain ⟨x7, σ7, H7, I7, r7, q7⟩ := q7; exact ⟨x7, σ7, H7, I7.unpinned, r7, q7⟩
/-- the next sign of a text: its token is new -/
theorem next_raw {A : Around} {E : Value → Shared → Prop} {s : Shared} {it : Addr} {z : Str} {t : Tok} {ty : String} {n : Nat} (hty : ty = "str_ascii_iterator" ∨ ty = "str_iterator") (h : s.heap.IsStrIter it ty z t n) (hn : n < z.cps.size) :
    wpAny (model X.prog X.w) A (pyNext (.ref it)) (fun r s' => ∃ c, r = some (.str ⟨#[c]⟩ s.toks) ∧ s'.toks = s.toks + 1) E s := by
  rcases hty with rfl | rfl
  · exact wpAny_pyNext_ascii_item h (c := z.cps[n]) (by simp [hn]) fun h' _ _ => ⟨_, rfl, rfl⟩
  · exact wpAny_pyNext_wide_item h (c := z.cps[n]) (by simp [hn]) fun h' _ _ => ⟨_, rfl, rfl⟩
/-- for x in text, a token is out: x's token is known in the body -/
theorem ps1_forS {iter : Expr} {body : List Stmt} {tb : TS} {px : Pos} (hp : PassesOwn (model X.prog X.w) X.A X.env X.xe) (hc : X.calm = true) (hN : X.N.Nodup) (hix : X.N[i]? = some x) (hx : X.env.scope.names.lookup x = some .local) (he : PE X iter te) (hb : PSq (Tl X x) X body tb)
    (hs : ∀ x, foldedSetIterable iter X.env x = pure x := by intro _; rfl) : PS1 T1 X (.For (.Name x px) iter body [] pos) (tFor (iStr te) (gName i) tb) := by
  refine ⟨fun pins s σ H D h0 I h => ?_⟩
  have tkM : ∀ {α : Type} {k : Nat} {t : Sem α} {Q Q' : α → Shared → Prop} {E : Value → Shared → Prop} {s : Shared}, k ≤ s.toks → wpAny (model X.prog X.w) X.A t Q E s → (∀ a s, k ≤ s.toks → Q a s → Q' a s) → wpAny (model X.prog X.w) X.A t Q' E s := fun k h hq => wpAny_mono (PySem.wpAny_toks_of k h) (fun a s z => hq a s z.1 z.2) fun _ _ z => z.2
  refine wpAny_For (tkM h0 (he.run pins s σ H _ I h) fun v s1 k1 ⟨y, H1, I1, r1, z, ez, q⟩ => ?_) hs
  subst ez
  obtain ⟨t, rfl⟩ := r1
  have go : ∀ (ty : String) (o : Obj), (ty = "str_ascii_iterator" ∨ ty = "str_iterator") → (s1.heap.push o).IsStrIter s1.heap.objs.size ty z t 0 →
      codeAny (model X.prog X.w) X.A (.forLoop (.Name x px) (.ref s1.heap.objs.size) body [] X.env) (fun r s' => match r with | .ok f => SP X pins D f s' | .error e => cameBackBy (model X.prog X.w) X.A X.env X.xe e s') { s1 with heap := s1.heap.push o } := by
    intro ty o hty hst
    have k2 : 1 ≤ ({ s1 with heap := s1.heap.push o } : Shared).toks := k1
    have T : Turn X.prog X.w X.K (.Name x px) (Its z) [s1.heap.objs.size] s1.heap.objs.size (fun i h => h.IsStrIter s1.heap.objs.size ty z t i) := turn_str _ z t ty hty
    obtain ⟨W, ⟨m0, w0⟩, turn⟩ := q
    have I2 : L2.Inv X pins σ H1 { s1 with heap := s1.heap.push o } := I1.kept fun b ob e => Heap.get?_push_of_some _ e
    have f2 : ∀ b ∈ [s1.heap.objs.size], FpOk X pins H1 b := fun b hb => by
      have e : b = s1.heap.objs.size := by simpa using hb
      subst e
      exact I1.fpOk (Nat.le_refl _) (I1.hok.fresh (Nat.le_refl _))
    generalize hfp : [s1.heap.objs.size] = fp at T f2
    generalize hit : s1.heap.objs.size = it at T hst ⊢
    have stat : ∀ {H' : Hp}, (∀ b ∈ fp, H' b = none) → ∀ b ∈ fp, FpOk X pins H' b := fun hn b hb => ⟨hn b hb, (f2 b hb).2⟩
    refine codeAny_forLoop_any (fun n s' => 1 ≤ s'.toks ∧ ∃ i σ' H', L2.Inv X pins σ' H' s' ∧ s'.heap.IsStrIter it ty z t i ∧ (∀ b ∈ fp, H' b = none) ∧ W i n σ' H') ?_ m0 ⟨k2, 0, σ, H1, I2, hst, fun b hb => (f2 b hb).1, w0⟩
    rintro n s3 ⟨k3, j, σ3, H3, I3, st3, fr3, w3⟩
    rcases turn j n σ3 H3 w3 with ⟨stop, qn⟩ | ⟨go, N, hNx, step⟩
    · refine wpAny_passesOwn hp (thn (T.done X rfl rfl rfl hc j pins s3 σ3 H3 X.xe I3 (stat fr3) st3 stop) fun r s4 ⟨hr, I4⟩ => ?_)
      subst hr
      exact wpAny_execs_nil ⟨σ3, H3, I4, qn⟩
    · refine wpAny_passesOwn hp (thn (wpAny_both (E' := fun _ _ => False) (T.item X rfl rfl rfl hc j pins s3 σ3 H3 X.xe I3 (stat fr3) st3 go) (next_raw hty st3 go)) fun r s4 ⟨⟨u, hr, h4⟩, cc, hr2, k4⟩ => ?_)
      subst hr
      injection hr2 with hu
      refine wpAny_passesOwn hp (tkM (Nat.le_of_eq k4.symm) h4 fun _ s5 k5 ⟨v5, H5, I5, r5, y5, st5, fr5⟩ => ?_)
      have I5' := I5.pinned (stat fr5) (T.obj _ _ st5)
      obtain ⟨m, hn, _⟩ := I5.loc
      have hcls : (X.env.scope.kind == .class || (X.env.scope.kind == .module && X.env.locals != X.env.globals)) = false := by rw [I5.ok.kind]; rfl
      have raw : wpAny (model X.prog X.w) X.A (assign (.Name x px) X.env u) (fun _ s6 => Tl X x s6) (fun _ _ => False) s5 := by
        refine wpAny_assign_Name (wpAny_storeName_local hx hn (fun h' hn' _ => ⟨_, ⟨#[cc]⟩, s3.toks, hn', by simp only [if_true]; rw [hu], Nat.lt_of_lt_of_le Nat.zero_lt_one k3, Nat.lt_of_lt_of_le (Nat.lt_succ_self _) (Nat.le_succ_of_le k5)⟩) hcls)
      refine wpAny_passesOwn hp (thn (wpAny_both ((pg_name hN hix (.inl hx) (.inr hx)).run _ s5 σ3 H5 v5 u _ I5' r5 (step v5 H5 y5)) raw) fun _ s6 ⟨⟨σ6, H6, I6, q6⟩, T6⟩ => ?_)
      have k6 : 1 ≤ s6.toks := by obtain ⟨_, _, _, _, _, a, b⟩ := T6; exact Nat.lt_of_le_of_lt (Nat.zero_le _) b
      refine wpAny_passesOwn hp (tkM k6 (hb.run _ s6 σ6 H6 _ T6 I6 q6) fun f s7 k7 q7 => ?_)
      have again : ∀ {σ7 : L2.St} {H7 : Hp}, L2.Inv X (pins ++ pinsAt fp s5.heap) σ7 H7 s7 → N σ7 H7 → ∃ m, m < n ∧ 1 ≤ s7.toks ∧ ∃ i σ' H', L2.Inv X pins σ' H' s7 ∧ s7.heap.IsStrIter it ty z t i ∧ (∀ b ∈ fp, H' b = none) ∧ W i m σ' H' := fun {σ7 H7} I7 n7 => by
        obtain ⟨m', hm, w7⟩ := hNx σ7 H7 n7
        refine ⟨m', hm, k7, j + 1, σ7, H7, I7.unpinned, T.keep _ _ _ st5 fun b hb o e => (I7.pin (b, o) (List.mem_append_right _ (List.mem_append_right _ (mem_pinsAt hb e)))).1, fun b hb => ?_, w7⟩
        obtain ⟨o, e, d⟩ := T.obj _ _ st5 b hb
        exact (I7.pin (b, o) (List.mem_append_right _ (List.mem_append_right _ (mem_pinsAt hb e)))).2.1
      cases f with
      | next => obtain ⟨σ7, H7, I7, n7⟩ := q7; exact again I7 n7
      | cont => obtain ⟨σ7, H7, I7, n7⟩ := q7; exact again I7 n7
      | brk => obtain ⟨σ7, H7, I7, q7⟩ := q7; exact ⟨σ7, H7, I7.unpinned, q7⟩
      | ret v => obtain ⟨x7, σ7, H7, I7, r7, q7⟩ := q7; exact ⟨x7, σ7, H7, I7.unpinned, r7, q7⟩
  cases ha : z.cps.all (· < 128)
  · exact wpAny_pyIter_wide ha (go "str_iterator" _ (.inr rfl) ⟨_, Heap.get?_push_size _ rfl, rfl, rfl⟩)
  · exact wpAny_pyIter_ascii ha (go "str_ascii_iterator" _ (.inl rfl) ⟨_, Heap.get?_push_size _ rfl, rfl, rfl⟩)
end
end CL

set_option maxHeartbeats 1000000
namespace CL
open PySem PySem.Spec PyProof.Rows L2

/-! ### what stays through an expression -/
def Stb (X : Cx) (P : Shared → Prop) : Prop := ∀ (pins : List (Addr × Obj)) (σ : L2.St) (H H' : Hp) (s s' : Shared), P s → L2.Inv X pins σ H s → Un (frs X.stack) [] H H' s.heap s'.heap → s.toks ≤ s'.toks → P s'
theorem stb_tl {X : Cx} {x : Str} : Stb X (Tl X x) := fun _ _ _ _ _ _ T I u t => T.un I u t
theorem stb_ck {X : Cx} {x : Str} : Stb X (Ck X x) := fun _ _ _ _ _ _ ⟨c, y, t, h1, ⟨o, h2, h3⟩, h4, h5⟩ I u tk => by
  obtain ⟨sl, e⟩ := u.any h2 (I.freeC x c h1) (by simp)
  exact ⟨c, y, t, h1, ⟨_, e, h3⟩, h4, Nat.lt_of_lt_of_le h5 tk⟩
structure PAq (P : Shared → Prop) (X : Cx) (es : List Expr) (t : TA) : Prop where
  run : ∀ (pos : Pos) (pins : List (Addr × Obj)) (s : Shared) (σ : L2.St) (H : Hp) (Q : List V → Hp → Prop), P s → L2.Inv X pins σ H s → t σ H Q → wpAny (model X.prog X.w) X.A (spliced (backTo pos (starEach es X.env))) (AP X pins σ Q) X.xe s
theorem paq_imp {P : Shared → Prop} {X : Cx} {e : List Expr} {t t' : TA} (h : PAq P X e t) (i : ∀ σ H Q, t' σ H Q → t σ H Q) : PAq P X e t' := ⟨fun pos pins s σ H Q p I q => h.run pos pins s σ H Q p I (i σ H Q q)⟩
section
variable {X : Cx} {P : Shared → Prop} {e : Expr} {es : List Expr} {te : TE} {ta : TA} {pos : Pos}
theorem paq_cons (st : Stb X P) (ha : PEu X e te) (hr : PAq P X es ta) (hs : starEach (e :: es) X.env = (false, eval e X.env) :: starEach es X.env := by rfl) : PAq P X (e :: es) (tCons te ta) := by
  refine ⟨fun pos pins s σ H Q p I h => ?_⟩
  rw [hs]
  show wpAny _ _ (spliced ((false, eval e X.env) :: backTo pos (starEach es X.env))) _ _ s
  refine Calls.spliced_cons (thn (ha.run pins s σ H _ I h) fun v s1 ⟨x, H1, I1, r1, q1, u1, t1⟩ => ?_)
  exact thn (hr.run pos pins s1 σ H1 _ (st pins σ H H1 s s1 p I u1 t1) I1 q1) fun us s2 ⟨xs, H2, I2, r2, q2⟩ => ⟨x :: xs, H2, I2, .cons r1 r2, q2⟩
theorem paq_last (ha : PEq P X e te) (hr : PA X es ta) (hs : starEach (e :: es) X.env = (false, eval e X.env) :: starEach es X.env := by rfl) : PAq P X (e :: es) (tCons te ta) := by
  refine ⟨fun pos pins s σ H Q p I h => ?_⟩
  rw [hs]
  show wpAny _ _ (spliced ((false, eval e X.env) :: backTo pos (starEach es X.env))) _ _ s
  refine Calls.spliced_cons (thn (ha.run pins s σ H _ p I h) fun v s1 ⟨x, H1, I1, r1, q1⟩ => ?_)
  exact thn (hr.run pos pins s1 σ H1 _ I1 q1) fun us s2 ⟨xs, H2, I2, r2, q2⟩ => ⟨x :: xs, H2, I2, .cons r1 r2, q2⟩
theorem peq_tup {x1} (h : PAq P X es ta) : PEq P X (.Tuple es x1 pos) (tTup ta) := by
  refine ⟨fun pins s σ H Q p I hq => ?_⟩
  refine wpAny_Tuple_spliced (thn (h.run pos pins s σ H _ p I hq) fun us s1 ⟨xs, H1, I1, r, z, q⟩ => ⟨by rw [← r.length]; exact z, ?_⟩)
  have hf : H1 s1.heap.objs.size = none := I1.hok.fresh (Nat.le_refl _)
  refine ⟨.ref s1.heap.objs.size, upd H1 s1.heap.objs.size (.tup xs), I1.laid (t' := s1.toks) (fun b u e => Heap.get?_push_of_some _ e) (Nat.le_refl _) ?_, rfl, q _ hf⟩
  exact ⟨z, us, r, ⟨_, Heap.get?_push_size _ rfl, rfl, _, rfl⟩⟩
theorem peq_tupleOf {p : Pos} (hg : Gl X "tuple") (hm : X.mg "tuple" = none) (ha : PEq P X e te) (na : starEach [e] X.env = (false, eval e X.env) :: starEach [] X.env := by rfl) :
    PEq P X (.Call (.Name "tuple" p) [e] [] pos) (tThen te (kTup X.K)) := by
  refine ⟨fun pins s σ H Q pp I h => ?_⟩
  refine Call_ (ld_blt I hg hm boot_tuple (PyProof.Rows.callWith_type1 (args_cons (thn (ha.run pins s σ H _ pp I h) fun v s1 ⟨x, H1, I1, r1, q1⟩ => args_nil (rl_tuple pins s1 σ H1 x v Q I1 r1 q1)) na) na))
/-- x[k] of a tuple -/
def tItem (K : PySem.W.Frag) (i : Nat) (k : Int) : TE := fun σ H Q => ∃ a xs v j, σ[i]? = some (some (.ref a)) ∧ SqT K H a xs ∧ seqIndex? k xs.length = some j ∧ xs[j]? = some v ∧ Q v H
theorem peu_item {i : Nat} {x : Str} {k : Int} {j : Nat} {p1 cp : Pos} (hN : X.N[i]? = some x) (hv : Vis X.env.scope x) (hlo : -(2 ^ 63) ≤ k) (hhi : k < 2 ^ 63) (hs : PlainIx (.Constant (.int k) j cp))
    (hd : (x == ("__debug__" : Str)) = false := by decide) (hcd : (x == ("__classdict__" : Str)) = false := by decide) : PEu X (.Subscript (.Name x p1) (.Constant (.int k) j cp) pos) (tItem X.K i k) := by
  refine ⟨fun pins s σ H Q I ⟨a, xs, v, n, hσ, hq, hj, hx, q⟩ => ?_⟩
  refine Subscript_ (raw_name hN hv I hσ (fun w r => ?_) hd hcd)
  have e : w = Value.ref a := r
  subst e
  refine wpAny_Constant_int ?_
  obtain ⟨its, rv, p, hz⟩ := I.tuple hq
  obtain ⟨u, hu, ru⟩ := rv.get hx
  exact item_tupleT (s := { s with toks := s.toks + 1 }) p hlo hhi (by rw [← rv.length]; exact hj) hu ⟨v, H, I.tok _, ru, q, Un.refl, Nat.le_succ _⟩ (hs _ _)
end
/-! ### in the mirror -/
def D.ixT : D → D → R D
  | .tup l, .int i => match atI l i with | some d => .ok d | none => .bad
  | _, _ => .bad
section
variable {X : Cx} {M : Md} {W : WX} {O : List Nat} {f g : DEnv → R D} {fs : DEnv → R (List D)} {e : Expr} {es : List Expr} {P : Shared → Prop} {pos : Pos}
theorem u_var (i : Nat) {x : Str} (hO : (O.contains i) = false := by rfl) (hN : X.N[i]? = some x := by rfl) (hv : Vis X.env.scope x := by first | exact Or.inl rfl | exact Or.inr (Or.inl rfl) | exact Or.inr (Or.inr rfl)) (hd : (x == ("__debug__" : Str)) = false := by decide)
    (hcd : (x == ("__classdict__" : Str)) = false := by decide) : PEu X (.Name x pos) (tD M W O (getV i)) := peu_imp (peu_var hN hv hd hcd) fun σ H Q ⟨δ, F, I, w⟩ => by
  obtain ⟨d, e, q⟩ := getV_ok w
  obtain ⟨v, e1, r⟩ := I.fr i d (by intro h; simp [h] at hO) e
  exact ⟨v, e1, q v H F (Grow.refl I.dom) r⟩
theorem u_ix (i : Nat) {x : Str} {k : Int} {j : Nat} {p1 cp : Pos} (hK : X.K = M.K) (hO : (O.contains i) = false := by rfl) (hN : X.N[i]? = some x := by rfl) (hv : Vis X.env.scope x := by first | exact Or.inl rfl | exact Or.inr (Or.inl rfl) | exact Or.inr (Or.inr rfl)) (hb : (decide (-(2 ^ 63) ≤ k) && decide (k < 2 ^ 63)) = true := by decide)
    (hs : PlainIx (.Constant (.int k) j cp) := by intro _ _; rfl) (hd : (x == ("__debug__" : Str)) = false := by decide) (hcd : (x == ("__classdict__" : Str)) = false := by decide) : PEu X (.Subscript (.Name x p1) (.Constant (.int k) j cp) pos) (tD M W O (bin D.ixT (getV i) (cst (.int k)))) := by
  simp only [Bool.and_eq_true, decide_eq_true_eq] at hb
  refine peu_imp (peu_item hN hv hb.1 hb.2 hs hd hcd) fun σ H Q ⟨δ, F, I, w⟩ => ?_
  obtain ⟨d, e, q⟩ := getV_ok (R.wp_bind w)
  obtain ⟨v, e1, r⟩ := I.fr i d (by intro h; simp [h] at hO) e
  cases d with
  | tup l =>
    cases r with
    | @tup a xs _ h1 r1 =>
      have q : (match (match atI l k with | some d => R.ok d | none => .bad) with | .ok d => R.ok d | _ => .bad).wp _ _ := q
      cases ea : atI l k with
      | none => rw [ea] at q; exact q.elim
      | some d' =>
        rw [ea] at q
        obtain ⟨z, e2, rz⟩ := r1.atI ea
        unfold L2.atI at e2
        cases en : ixN xs.length k with
        | none => rw [en] at e2; cases e2
        | some n =>
          rw [en] at e2
          exact ⟨a, xs, z, n, e1, SqT.of h1, (ixN_seq en).1, e2, q z H F (Grow.refl I.dom) rz⟩
  | _ => exact q.elim
theorem ua_nil : PAu X [] (tA M W O (Rep M) nilA) := pau_imp pau_nil fun σ H Q ⟨δ, F, I, w⟩ => w [] H F (Grow.refl I.dom) .nil
theorem ta_cons {σ : L2.St} {H : Hp} {Q : List V → Hp → Prop} (h : tA M W O (Rep M) (consA f fs) σ H Q) : tCons (tD M W O f) (tA M W O (Rep M) fs) σ H Q := by
  obtain ⟨δ, F, I, w⟩ := h
  refine tE.one I w fun d v H1 F1 ed g1 r w1 => ?_
  refine ⟨δ, F1, I.grow g1, R.wp_mono (R.wp_bind w1) (fun ds eds w2 vs H2 F2 g2 rs => ?_) fun n q H2 F2 g2 => q H2 F2 (g1.trans g2)⟩
  exact w2 (v :: vs) H2 F2 (g1.trans g2) (.cons (r.grow g2) rs)
theorem ua_cons (ha : PEu X e (tD M W O f)) (hr : PAu X es (tA M W O (Rep M) fs)) (hs : starEach (e :: es) X.env = (false, eval e X.env) :: starEach es X.env := by rfl) : PAu X (e :: es) (tA M W O (Rep M) (consA f fs)) := pau_imp (pau_cons ha hr hs) fun σ H Q h => ta_cons h
theorem qa_cons (st : Stb X P) (ha : PEu X e (tD M W O f)) (hr : PAq P X es (tA M W O (Rep M) fs)) (hs : starEach (e :: es) X.env = (false, eval e X.env) :: starEach es X.env := by rfl) : PAq P X (e :: es) (tA M W O (Rep M) (consA f fs)) := paq_imp (paq_cons st ha hr hs) fun σ H Q h => ta_cons h
theorem qa_last (ha : PEq P X e (tD M W O f)) (hr : PA X es (tA M W O (Rep M) fs)) (hs : starEach (e :: es) X.env = (false, eval e X.env) :: starEach es X.env := by rfl) : PAq P X (e :: es) (tA M W O (Rep M) (consA f fs)) := paq_imp (paq_last ha hr hs) fun σ H Q h => ta_cons h
theorem q_tup {k : Nat} (h : PAq P X es (tA M W O (Rep M) fs)) : PEq P X (.Tuple es k pos) (tD M W O (tupV fs)) := peq_imp (peq_tup h) fun σ H Q ⟨δ, F, I, w⟩ => by
  refine ⟨δ, F, I, R.wp_mono (R.wp_bind w) (fun ds _ q vs H1 F1 g1 rs => ?_) fun _ q => q⟩
  by_cases hl : ds.length ≤ lim
  · rw [if_pos hl] at q
    refine ⟨by rw [rs.length, lim_eq]; exact hl, fun p hp => ?_⟩
    have g2 := Grow.newT (o := .tup vs) g1.dom hp
    exact q (.ref p) _ _ (g1.trans g2) (.tup upd_same (rs.rep.grow g2))
  · rw [if_neg hl] at q; exact q.elim
theorem q_tupleOf {p : Pos} (hm : X.mg "tuple" = none) (ha : PEq P X e (tD M W O f)) (hg : Gl X "tuple" := by rfl) (na : starEach [e] X.env = (false, eval e X.env) :: starEach [] X.env := by rfl) : PEq P X (.Call (.Name "tuple" p) [e] [] pos) (tD M W O (tupOfV f)) := peq_imp (peq_tupleOf hg hm ha na) fun σ H Q ⟨δ, F, I, w⟩ => by
  refine tE.one I w fun d v H1 F1 ed g1 r w1 => ?_
  cases d with
  | lst l =>
    cases r with
    | @lst a xs _ _ h1 r1 =>
      refine .inl ⟨_, _, rfl, SqL.of h1, fun q hq => ?_⟩
      have g2 := Grow.newT (o := .tup xs) g1.dom hq
      exact w1 (.ref q) _ _ (g1.trans g2) (.tup upd_same (r1.grow g2))
  | tup l => cases r with | tup h1 h2 => exact .inr ⟨_, _, rfl, SqT.of h1, w1 _ H1 F1 g1 (.tup h1 h2)⟩
  | _ => exact w1.elim
/-- f(e, ..), f a def -/
theorem u_call {k : Nat} {x : Str} {m : List D → R D} {p : Pos} (F : FnD X.prog X.w M X.base k x m) (hM : On X M) (hr : Room k X.A) (tk : Takes X W) (ha : PAu X (e :: es) (tA M W O (Rep M) fs)) (hg : Gl X x := by rfl) (hdb : (x == ("__debug__" : Str)) = false := by decide)
    (he : starEach (e :: es) X.env = (false, eval e X.env) :: starEach es X.env := by rfl) (hpl : (backTo pos (starEach es X.env)).any (·.1) = false := by rfl) :
    PEu X (.Call (.Name x p) (e :: es) [] pos) (tD M W O (callV m fs)) := by
  obtain ⟨fa, fd, ps, h1, h2, h3, h4⟩ := F.ex
  rw [← hM.K] at h2 h3
  rw [← hM.mg] at h1
  have h5 : FnOk X.prog X.w X.K X.mg X.base (L2.CX X.prog X.w) k fa fd ps (spD M m) := by rw [hM.K, hM.mg]; exact h4
  refine peu_imp (peu_call h5 hr hg h1 h2 h3 (fun σ => passAt tk σ) ha hdb he hpl) fun σ H Q ⟨δ, F, I, w⟩ => ?_
  refine ⟨δ, F, I, R.wp_mono (R.wp_bind w) (fun ds eds w1 vs H1 F1 g1 rs => ?_) fun _ q => q⟩
  exact ⟨F1, ds, g1.dom, rs.rep, R.wp_mono w1 (fun d _ q v H' F' g r => q v H' F' (g1.trans g) r) fun n q H' F' g => q H' F' (g1.trans g)⟩
/-- a text against a written one -/
def cmpS (k : Bool) (f : DEnv → R D) (c : List Nat) : DEnv → R Bool := fun δ => (f δ).bind fun d => match d with
  | .str z => .ok ((z == c) == k)
  | _ => .bad
theorem cmpS_imp {k : Bool} {c : List Nat} {y : Str} {σ : L2.St} {H : Hp} {Q : Bool → Hp → Prop} (hy : y.cps.toList = c) (h : tT M W O (cmpS k f c) σ H Q) : tCmpS k (tD M W O f) y σ H Q := by
  obtain ⟨δ, F, I, w⟩ := h
  refine ⟨δ, F, I, R.wp_mono (R.wp_bind w) (fun d ed q v H' F' g r => ?_) fun _ q => q⟩
  cases d with
  | str z => cases r with | str ok => exact ⟨_, rfl, by rw [hy]; exact q H' F' g⟩
  | _ => exact q.elim
theorem u_ne (c : List Nat) {y : Str} {j : Nat} {cp : Pos} (ha : PEu X e (tD M W O f)) (hy : y.cps.toList = c := by rfl) (hm : behindInMarks .NotEq (.Constant (.str y) j cp) = false := by rfl) : PTu X (.Compare e [.NotEq] [.Constant (.str y) j cp] pos) (tT M W O (cmpS false f c)) := ptu_imp (ptu_ne ha hm) fun σ H Q h => cmpS_imp hy h
theorem u_eq (c : List Nat) {y : Str} {j : Nat} {cp : Pos} (ha : PEu X e (tD M W O f)) (hy : y.cps.toList = c := by rfl) (hm : behindInMarks .Eq (.Constant (.str y) j cp) = false := by rfl) : PTu X (.Compare e [.Eq] [.Constant (.str y) j cp] pos) (tT M W O (cmpS true f c)) := ptu_imp (ptu_eq ha hm) fun σ H Q h => cmpS_imp hy h
theorem q_ife {x : Str} {c a b : Expr} {fa : DEnv → R Bool} (hc : PTu X c (tT M W O fa)) (ha : PEq (Tl X x) X a (tD M W O f)) (hb : PE X b (tD M W O g)) : PEq (Tl X x) X (.IfExp c a b pos) (tD M W O (ifV fa f g)) := peq_imp (peq_ifExp hc ha hb) fun σ H Q ⟨δ, F, I, w⟩ => by
  refine tT.one I w fun c H1 F1 ec g1 w1 => ?_
  cases c with
  | true => exact ⟨δ, F1, I.grow g1, wp_behind g1 w1⟩
  | false => exact ⟨δ, F1, I.grow g1, wp_behind g1 w1⟩
end
end CL

set_option maxHeartbeats 1000000
namespace CL
open PySem PySem.Spec PyProof.Rows L2

/-! ### statements in the mirror, behind a known start -/
section
variable {X : Cx} {M : Md} {W : WX} {H0 : Hp} {F0 : Addr → Prop} {O O1 O' Ol : List Nat} {g1 g2 : DEnv → Out} {f g : DEnv → R D} {fs : DEnv → R (List D)} {e : Expr} {es : List Expr} {st : Stmt} {sts : List Stmt} {pos : Pos} {P : Shared → Prop}
theorem for_imp {vs : List Nat} {fi : DEnv → R (List D)} {gi : D → DEnv → R DEnv} {gb : DEnv → Out} {E : Ends} {σ : L2.St} {H : Hp} (h : tS M W H0 F0 O O Ol (forS fi gi gb) E σ H) :
    tFor (tI M W O fi) (tGt M O vs gi) (fun E' σ' H' => ∃ H1 F1, tS M W H1 F1 O O O gb E' σ' H') E σ H := by
  obtain ⟨δ, F, I, w⟩ := h
  refine ⟨δ, F, I.e, ?_⟩
  unfold forS at w
  cases ef : fi δ with
  | bad => rw [ef] at w; exact w.elim
  | exc n =>
    rw [ef] at w
    intro H' F' g
    obtain ⟨F'', I''⟩ := (I.grow g).dropAll
    exact w σ H' F'' I''
  | ok ds =>
    rw [ef] at w
    intro J H1 F1 g1 dw
    obtain ⟨Hn, nest, In, kp⟩ := (I.grow g1).narrow
    have wk : Walk J ds.length (fun H' => Keep F1 H1 H') (fun i H' x H'' => Keep F1 H1 H' ∧ J.yld i H' x H'') := ⟨fun i H' hi k => dw.go i H' hi k, fun H' k => dw.stop H' k, fun i H' x H'' hi k y => ⟨k, y⟩⟩
    let Pv : Nat → L2.St → Hp → Prop := fun i σ' H' => ∃ δ' F', SInv M Hn F1 O F' H' σ' δ' ∧ OutP M W Hn F1 O Ol E (forL gi gb (ds.drop i) δ')
    refine for_it wk (g := tGt M O vs gi) (tb := fun E' σ' H' => ∃ H1 F1, tS M W H1 F1 O O O gb E' σ' H') (D := E) Pv ⟨δ, F1, In, nest.out (by simpa [inA] using w)⟩ (fun i σ' H' hi p => ?_) (fun i x σ' H' H'' hi p y => ?_) (fun σ' H' p => ?_)
    · obtain ⟨_, _, Iv, _⟩ := p
      exact kp H' Iv.sub
    · obtain ⟨δ', F', I', w'⟩ := p
      obtain ⟨k, y⟩ := y
      obtain ⟨d, ed, hH, rx⟩ := dw.yld i H' x H'' hi k y
      have g2 : Grow F' H' F' H'' := by
        rcases hH with e | ⟨T, xs, hT, e⟩
        · rw [e]; exact Grow.refl I'.e.dom
        · rw [e]; exact Grow.newT I'.e.dom hT
      have I2 := I'.grow g2
      have rx' : Rep M F' H'' x d := rx.mono ⟨fun _ _ _ e => e, fun _ _ e => e, fun _ _ _ e => e⟩ I'.up
      have hdrop : ds.drop i = d :: ds.drop (i + 1) := by
        obtain ⟨hlt, e1⟩ := List.getElem?_eq_some_iff.mp ed
        rw [List.drop_eq_getElem_cons hlt, e1]
      rw [hdrop] at w'
      unfold forL at w'
      refine ⟨δ', F', d, I2.e, rx', ?_⟩
      cases eg : gi d δ' with
      | exc n => rw [eg] at w'; exact w'.elim
      | bad => rw [eg] at w'; exact w'.elim
      | ok δ1 =>
        rw [eg] at w'
        intro σ2 E2 hw hj
        have I3 : SInv M Hn F1 O F' H'' σ2 δ1 := ⟨E2, I2.sub, I2.up, I2.low, fun j e p h1 h2 h3 => by
          obtain ⟨n1, n2⟩ := hj j h1
          have e3 : σ2[j]? = σ'[j]? := by rw [← wipe_out n1 (σ := σ2), hw, wipe_out n1]
          rw [n2] at h2
          rw [e3] at h3
          exact I2.new j e p h1 h2 h3⟩
        refine ⟨Hn, F1, δ1, F', I3, ?_⟩
        simp only at w'
        cases eo : gb δ1 with
        | nxt δ2 => rw [eo] at w'; exact fun σ2 H2 F2 I2 => ⟨δ2, F2, I2, w'⟩
        | cnt δ2 => rw [eo] at w'; exact fun σ2 H2 F2 I2 => ⟨δ2, F2, I2, w'⟩
        | brk δ2 => rw [eo] at w'; exact w'
        | ret d => rw [eo] at w'; exact w'
        | exc k δ2 => rw [eo] at w'; exact w'
        | bad => rw [eo] at w'; exact w'.elim
    · obtain ⟨δ', F', I', w'⟩ := p
      rw [List.drop_length] at w'
      exact w' σ' H' F' I'
theorem seq_imp {E : Ends} {σ : L2.St} {H : Hp} (h : tS M W H0 F0 O O' Ol (seqS g1 g2) E σ H) : tSeq (tS M W H0 F0 O O1 Ol g1) (tS M W H0 F0 O1 O' Ol g2) E σ H := by
  obtain ⟨δ, F, I, w⟩ := h
  refine ⟨δ, F, I, ?_⟩
  unfold seqS at w
  cases e : g1 δ with
  | nxt δ' =>
    rw [e] at w
    exact fun σ' H' F' I' => ⟨δ', F', I', w⟩
  | ret d => rw [e] at w; exact w
  | brk d => rw [e] at w; exact w
  | cnt d => rw [e] at w; exact w
  | exc n d => rw [e] at w; exact w
  | bad => rw [e] at w; exact w.elim
theorem set_imp {i : Nat} {E : Ends} {σ : L2.St} {H : Hp} (hO : O' = O.filter (· != i)) (h : tS M W H0 F0 O O' Ol (fun δ => inS δ (f δ) fun d => .nxt (δ.set i (some d))) E σ H) : tAsg (tD M W O f) (gName i) E σ H := by
  obtain ⟨δ, F, I, w⟩ := h
  exact tE.inS I w fun d v H' F' _ g r w' => by subst hO; exact w' _ H' F' ((I.grow g).set r)
/-- y = e, x's token stays known -/
theorem qs_set (i : Nat) {x y : Str} {p' : Pos} (hN : X.N.Nodup) (h : PEu X e (tD M W O f)) (hr : PSq (Tl X x) X sts (tS M W H0 F0 (O.filter (· != i)) O' Ol g2)) (hi : X.N[i]? = some y := by rfl) (hy : X.env.scope.names.lookup y = some .local := by rfl) (hne : x ≠ y := by decide)
    (hs : swapsWith e (some (.Name y p')) pos.line X.env = pure false := by rfl) : PSq (Tl X x) X (.Assign [.Name y p'] e pos :: sts) (tS M W H0 F0 O O' Ol (seqS (fun δ => inS δ (f δ) fun d => .nxt (δ.set i (some d))) g2)) :=
  psq_imp (psq_set hN hi hy hne h hr hs) fun E σ H q => set_imp rfl (seq_imp q)
/-- y = e, a token is out behind it -/
theorem qs_out (i : Nat) {y : Str} {p' : Pos} (hN : X.N.Nodup) (h : PE X e (tD M W O f)) (hr : PSq T1 X sts (tS M W H0 F0 (O.filter (· != i)) O' Ol g2)) (hi : X.N[i]? = some y := by rfl) (hy : X.env.scope.names.lookup y = some .local := by rfl)
    (hs : swapsWith e (some (.Name y p')) pos.line X.env = pure false := by rfl) : PSs X (.Assign [.Name y p'] e pos :: sts) (tS M W H0 F0 O O' Ol (seqS (fun δ => inS δ (f δ) fun d => .nxt (δ.set i (some d))) g2)) :=
  pss_imp (psq_out hN hi hy h hr hs) fun E σ H q => set_imp rfl (seq_imp q)
/-- y = e, e wants the known start -/
theorem qs_setR (i : Nat) {y : Str} {p' : Pos} (hN : X.N.Nodup) (h : PEq P X e (tD M W O f)) (hr : PSs X sts (tS M W H0 F0 (O.filter (· != i)) O' Ol g2)) (hi : X.N[i]? = some y := by rfl) (hx : Loc X.env.scope y := by first | exact Or.inl rfl | exact Or.inr rfl)
    (hs : swapsWith e (some (.Name y p')) pos.line X.env = pure false := by rfl) (hf : X.fn y = true ∨ X.env.scope.names.lookup y = some .local := by first | exact .inl rfl | exact .inr rfl) : PSq P X (.Assign [.Name y p'] e pos :: sts) (tS M W H0 F0 O O' Ol (seqS (fun δ => inS δ (f δ) fun d => .nxt (δ.set i (some d))) g2)) :=
  psq_imp (psq_setR hN hi hx h hr hs hf) fun E σ H q => set_imp rfl (seq_imp q)
/-- if c: return .. -/
def ifRet (ft : DEnv → R Bool) (ga gu : DEnv → Out) : DEnv → Out := fun δ => inT δ (ft δ) fun b => if b then (match ga δ with | .nxt _ => .bad | o => o) else gu δ
theorem qs_if {x : Str} {c : Expr} {a : List Stmt} {ft : DEnv → R Bool} {ga : DEnv → Out} {Oa : List Nat} (hc : PTu X c (tT M W O ft)) (ha : PSs X a (tS M W H0 F0 O Oa Ol ga)) (hr : PSq (Tl X x) X sts (tS M W H0 F0 O O' Ol g2)) : PSq (Tl X x) X (.If c a [] pos :: sts) (tS M W H0 F0 O O' Ol (ifRet ft ga g2)) :=
  psq_imp (psq_if hc ha hr) fun E σ H ⟨δ, F, I, w⟩ => tT.inT I w fun c H' F' _ g w' => by
    cases c with
    | true =>
      refine ⟨δ, F', I.grow g, ?_⟩
      have w' : OutP M W H0 F0 O' Ol E (match ga δ with | .nxt _ => .bad | o => o) := w'
      cases eo : ga δ with
      | nxt δ' => rw [eo] at w'; exact w'.elim
      | ret d => rw [eo] at w'; exact w'
      | brk d => rw [eo] at w'; exact w'
      | cnt d => rw [eo] at w'; exact w'
      | exc n d => rw [eo] at w'; exact w'
      | bad => rw [eo] at w'; exact w'.elim
    | false => exact ⟨δ, F', I.grow g, w'⟩
theorem qs_cons1 (h1 : PS1 T1 X st (tS M W H0 F0 O O1 Ol g1)) (h2 : PSq T1 X sts (tS M W H0 F0 O1 O' Ol g2)) : PSq T1 X (st :: sts) (tS M W H0 F0 O O' Ol (seqS g1 g2)) := psq_imp (psq_cons1 h1 h2) fun E σ H q => seq_imp q
theorem psq_ex {sts : List Stmt} {t : Hp → (Addr → Prop) → TS} (h : ∀ H0 F0, PSq P X sts (t H0 F0)) : PSq P X sts (fun E σ H => ∃ H1 F1, t H1 F1 E σ H) := ⟨fun pins s σ H E p I ⟨H1, F1, q⟩ => (h H1 F1).run pins s σ H E p I q⟩
/-- for, a token is out -/
theorem qs_for {tg iter : Expr} {body : List Stmt} {vs : List Nat} {fi : DEnv → R (List D)} {gi : D → DEnv → R DEnv} {gb : DEnv → Out} (hp : PassesOwn (model X.prog X.w) X.A X.env X.xe) (hc : X.calm = true) (hi : PI X tg iter (tI M W O fi)) (hg : PG X tg (tGt M O vs gi)) (hb : ∀ H0 F0, PSq T1 X body (tS M W H0 F0 O O O gb))
    (hs : ∀ x, foldedSetIterable iter X.env x = pure x := by intro _; rfl) : PS1 T1 X (.For tg iter body [] pos) (tS M W H0 F0 O O Ol (forS fi gi gb)) := ps1_imp (ps1_for hp hc hi hg (psq_ex hb) hs) fun E σ H q => for_imp q
/-- for x in text -/
theorem qs_forS (i : Nat) {x : Str} {px : Pos} {iter : Expr} {body : List Stmt} {gb : DEnv → Out} (hp : PassesOwn (model X.prog X.w) X.A X.env X.xe) (hc : X.calm = true) (hN : X.N.Nodup) (h : PE X iter (tD M W O f)) (hb : ∀ H0 F0, PSq (Tl X x) X body (tS M W H0 F0 O O O gb))
    (hO : O.contains i = false := by rfl) (hi : X.N[i]? = some x := by rfl) (hx : X.env.scope.names.lookup x = some .local := by rfl) (hs : ∀ x, foldedSetIterable iter X.env x = pure x := by intro _; rfl) :
    PS1 T1 X (.For (.Name x px) iter body [] pos) (tS M W H0 F0 O O Ol (forS (strOf f) (put i) gb)) := ps1_imp (ps1_forS hp hc hN hi hx h (psq_ex hb) hs) fun E σ H q => by
  obtain ⟨δ, F, I, w⟩ := for_imp (vs := [i]) q
  refine tE.one I w fun d v H1 F1 ed g1 r w1 => ?_
  cases d with
  | str l =>
    cases r with
    | str ok =>
      obtain ⟨Wv, w0, turn⟩ := w1 _ H1 F1 g1 (walkS ok)
      refine ⟨_, rfl, Wv, w0, fun j m σ' H' hw => (turn j m σ' H' hw).imp (fun z => z) fun ⟨go, N, hNx, step⟩ => ⟨go, N, hNx, fun x H'' y => ?_⟩⟩
      obtain ⟨δ', F', d', I', r', w'⟩ := step x H'' y
      have I2 := I'.set (i := i) r'
      rw [filter_ne hO] at I2
      refine w' _ I2 wipe_set fun j hj => ?_
      have ne : j ≠ i := fun z => by subst z; simp [hj] at hO
      exact ⟨by simpa using ne, List.getElem?_set_ne (Ne.symm ne)⟩
  | _ => exact w1.elim
end
end CL

set_option maxHeartbeats 1000000
namespace CL
open PySem PySem.Spec PyProof.Rows L2

/-! ### [lane.replace(car, '') for lane in lanes] -/
section
variable {X : Cx} {M : Md} {W : WX} {O : List Nat} {f : DEnv → R D} {pos : Pos}
theorem q_strikes (il ic : Nat) {iter : Expr} {scope : Scope} {own : List (Str × Nat)} {vs : List Nat} {lx cx : Str} {j : Nat} {p1 p2 p3 c0 apos cpos : Pos} (hc : X.calm = true) (hN : X.N.Nodup) (fn : ∀ x, X.fn x = true)
    (hi : PEu X iter (tD M W O f)) (ok : BlkOk X.N X.env.scope scope own) (hK : X.K = M.K) (hv : own.map (·.2) = vs)
    (hg : ∀ (s : Shared) (H : Hp) (C : Addr) (cl : List (Str × Addr)) (fp : List Addr), PG (X.blk s H scope (compEnvC scope cl C X.env) fp) (.Name lx p3) (tGt M O vs (put il)))
    (hNl : X.N[il]? = some lx) (hNc : X.N[ic]? = some cx)
    (hvl : ∀ (s : Shared) (C : Addr), Vis (compEnvC scope (cellsFrom (s.heap.objs.size + 1) scope.names (cloFrom X.env.cells scope.names [])) C X.env).scope lx)
    (hcl : ∀ (n : Nat) (cs : List (Str × Addr)), (cellsFrom n scope.names (cloFrom cs scope.names [])).lookup cx = some ((cs.lookup cx).getD 0))
    (hk : ∀ (s : Shared) (C : Addr), (compEnvC scope (cellsFrom (s.heap.objs.size + 1) scope.names (cloFrom X.env.cells scope.names [])) C X.env).kindOf cx = some .cell ∨ (compEnvC scope (cellsFrom (s.heap.objs.size + 1) scope.names (cloFrom X.env.cells scope.names [])) C X.env).kindOf cx = some .free)
    (hO : (O.contains il) = false) (hO2 : (O.contains ic) = false)
    (hdl : (lx == ("__debug__" : Str)) = false) (hcdl : (lx == ("__classdict__" : Str)) = false) (hdc : (cx == ("__debug__" : Str)) = false) (hcdc : (cx == ("__classdict__" : Str)) = false)
    (hst : ∀ env : Env, starEach [.Name cx p2, .Constant (.str "") j c0] env = [(false, eval (.Name cx p2) env), (false, eval (.Constant (.str "") j c0) env)])
    (hbase : ∀ env : Env, attributeBase (.Name lx p1) "replace" env (eval (.Name lx p1) env) = eval (.Name lx p1) env)
    (hline : (apos.endLine == cpos.line) = true) (hs : ∀ x, foldedSetIterable iter X.env x = pure x) :
    PEq (Ck X cx) X (.ListComp (.Call (.Attribute (.Name lx p1) "replace" apos) [.Name cx p2, .Constant (.str "") j c0] [] cpos) [⟨.Name lx p3, iter, [], 0⟩] scope pos) (tD M W O (lcV vs (tupOf f) (put il) yesT (bin D.strike (getV il) (getV ic)))) := by
  refine ⟨fun pins s σ H Q ck I h => ?_⟩
  rw [eval_ListComp]
  refine lc_pm (X := X) (own := own) (g := tGt M O vs (put il)) (te := tD M W0 O (bin D.strike (getV il) (getV ic))) (Ck X cx) (fun z ob h => h.push ob) hc hN fn I ok hg (fun s H C fp ck ap => sdb_strike il ic ck ap hNl hNc (hvl s C) hcl (hk s C) hO hO2 hdl hcdl hdc hcdc (hst _) (hbase _) hline) hs ?_
  obtain ⟨δ, F, I0, w⟩ := tLc_of h
  have run := hi.run pins s σ H (fun v H1 => ∃ a, v = .ref a ∧ (∃ xs, SqT X.K H1 a xs) ∧ ∀ A, H1 A = none → ∃ W : Nat → Nat → Hp → Prop, (∃ m, W 0 m (upd H1 A (.lst []))) ∧ ∀ i m H, W i m H →
      ((Itt X.K a).stop i H ∧ Q (.ref A) H) ∨ ((Itt X.K a).go i H ∧ ∃ Nx : Hp → Prop, (∀ H', Nx H' → ∃ m', m' < m ∧ W (i + 1) m' H') ∧ ∀ x H', (Itt X.K a).yld i H x H' → tGt M O vs (put il) x (wipe σ vs) H' fun σ2 H2 => wipe σ2 vs = wipe σ vs ∧
        tD M W0 O (bin D.strike (getV il) (getV ic)) σ2 H2 fun y H4 => ∃ acc, H4 A = some (.lst acc) ∧ acc.length < sizeLine ∧ Nx (upd H4 A (.lst (acc ++ [y]))))) I (tE.one I0 w fun d v H1 F1 ed g1 r w1 => by
    cases d with
    | tup l =>
      cases r with
      | @tup a xs _ h2 h3 =>
        refine ⟨a, rfl, ⟨xs, SqT.of h2⟩, fun A hA => ?_⟩
        obtain ⟨Wv, w0, turn⟩ := w1 _ H1 F1 g1 (walkT h2 h3) A hA
        refine ⟨Wv, w0, fun i m H hw => (turn i m H hw).imp (fun z => z) fun ⟨go, Nx, hNx, step⟩ => ⟨go, Nx, hNx, fun x H' y => ?_⟩⟩
        obtain ⟨δ', F', d', I', r', w'⟩ := step x H' y
        refine ⟨δ', F', d', I', r', R.wp_mono w' (fun δ1 _ q σ' I1 hw1 hj => ?_) fun _ z => z⟩
        obtain ⟨a1, δ2, F2, I2, w2⟩ := q σ' I1 hw1 hj
        exact ⟨a1, w2 _ F2 (Grow.refl I2.dom)⟩
    | _ => exact w1.elim)
  refine thn run fun v s1 ⟨x, H1, I1, r1, ⟨a, ex, ⟨xs, hq⟩, q⟩, u1, t1⟩ => ?_
  subst ex
  cases r1
  obtain ⟨its, rv, p, hz⟩ := I1.tuple hq
  refine wpAny_pyIter_tuple (show s1.heap.IsTuple a its.toArray from p) ?_
  refine ⟨(stb_ck pins σ H H1 s s1 ck I u1 t1).push _, s1.heap.objs.size, [s1.heap.objs.size], _, _, H1, rfl, I1.kept (t' := s1.toks) fun b o e => Heap.get?_push_of_some _ e, turn_tuple a _, ⟨_, Heap.get?_push_size _ rfl, rfl, rfl⟩, fun b hb => ?_, ?_⟩
  · have e : b = s1.heap.objs.size := by simpa using hb
    subst e
    exact I1.fpOk (Nat.le_refl _) (I1.hok.fresh (Nat.le_refl _))
  · rw [hv]; exact q
end

/-! ### defs that want a known token -/
structure FnDT (P : Program) (w : World) (M : Md) (base : Heap) (k : Nat) (x : Str) (m : List D → R D) (j : Nat) : Prop where
  ex : ∃ (f : Addr) (fd : FuncData) (ps : List Str), M.mg x = some (.ref f) ∧ PySem.W.keepIn M.K (.ref f) = true ∧ Binds M.K fd ps [] ∧ (∀ vs H Q E, spD M m vs H Q E → vs.length = ps.length) ∧
    ∀ (A : Around) (outer : List Env) (s : Shared) (H : Hp) (args : Args) (us : List Value) (vs : List V) (Q : VK) (E : XK) (y : Str) (t : Tok), Room k A → Env0 P w M.K M.mg base A outer s H → BindsTo s fd args (ps.zip us) → Vals vs us → us[j]? = some (.str y t) → 0 < t → t < s.toks → spD M m vs H Q E →
      codeAny (model P w) A (.call (.ref f) args) (CR (L2.CX P w) outer P w H s Q E) s
theorem FnDT.mono {P : Program} {w : World} {M : Md} {base : Heap} {i k j : Nat} {x : Str} {m : List D → R D} (F : FnDT P w M base i x m j) (h : i ≤ k) : FnDT P w M base k x m j := by
  obtain ⟨f, fd, ps, h1, h2, h3, h4, h5⟩ := F.ex
  exact ⟨f, fd, ps, h1, h2, h3, h4, fun A outer s H args us vs Q E y t hr => h5 A outer s H args us vs Q E y t (hr.mono h)⟩
theorem fn_mkK {M : Md} {P : Program} {w : World} {base : Heap} {x qual cx : Str} {st : Stmt} {fa : Addr} {fd : FuncData} {N ps : List Str} {k j : Nat} {g : DEnv → Out} {O' : List Nat} (hmg : M.mg x = some (.ref fa)) (F : Fun M.K x qual st fa fd) (S : FnScope N ps (defScope st))
    (hb : Binds M.K fd ps []) (hj : ps[j]? = some cx) (hcx : (defScope st).names.lookup cx = some .cell)
    (body : ∀ (cdv : Value) (A : Around) (outer : List Env) (s : Shared) (H : Hp) (E : XK), Room k (A.deeper (envOfC qual (defScope st) s.heap.objs.size fa cdv)) → ∀ (F0 : Addr → Prop),
      PSq (Ck (cxOf (L2.CX P w) P w M.K M.mg base N qual (defScope st) fa cdv A outer s H E) cx) (cxOf (L2.CX P w) P w M.K M.mg base N qual (defScope st) fa cdv A outer s H E) (defBody st) (tS M (fun cls d _ H => E cls d H) H F0 [] O' [] g)) :
    FnDT P w M base (k + 1) x (runF ps.length N.length g) j := by
  have len : ∀ vs H Q E, spD M (runF ps.length N.length g) vs H Q E → vs.length = ps.length := fun vs H Q E ⟨F, ds, _, r, w⟩ => by
    unfold runF at w
    split at w
    · rename_i h; rw [r.length]; exact h
    · exact w.elim
  refine ⟨fa, fd, ps, hmg, F.kp, hb, len, fun A outer s H args us vs Q E y t hr e0 hbt r hy t0 t1 hsp => ?_⟩
  obtain ⟨oc, od, kV, doc, pm, an, cdv, ct, osl, rfl, lk, hcd⟩ := F.ex
  have hl := len _ _ _ _ hsp
  have KX : M.K.In s.heap := e0.mod.kin.keeps fun b o e => (e0.bs b o e).1
  have nlim : s.heap.NoLimit := e0.mod.nolimit.keeps fun b o e => (e0.bs b o e).1
  have hkind : ∀ y ∈ ps.zip us, (defScope st).names.lookup y.1 = some .local ∨ ((defScope st).names.lookup y.1 = some .cell ∧ ((cellsFrom (s.heap.objs.size + 1) (defScope st).names []).lookup y.1).isSome = true) := fun ⟨n, v⟩ hy => by
    rcases S.par n (List.of_mem_zip hy).1 with q | q
    · exact .inl q
    · exact .inr ⟨q, PySem.W.cellsFrom_some _ _ _ (.inl q)⟩
  refine codeAny_call_function hr.depth (KX _ _ lk) rfl S.co S.gen rfl (PySem.W.codeRec_of KX hcd) (hbt _ _ _ _ ?_)
  refine wpAny_with_toks (Nat.le_refl s.toks) (wpAny_newFunctionEnv_cells S.kind hkind fun env he s1 xx tk => ?_)
  subst he
  refine ⟨nlim.keeps xx.toInCall.keep, codeAny_func ?_⟩
  obtain ⟨F1, ds, dm, rp, w1⟩ := hsp
  have I : L2.Inv (cxOf (L2.CX P w) P w M.K M.mg base N qual (defScope st) fa cdv A outer s H E) [] (start N vs) H s1 := inv_start S hr.hd e0 hl r xx
  have ndP : ps.Nodup := by rw [← S.pre]; exact S.nd.sublist (List.take_sublist _ _)
  have ck : Ck (cxOf (L2.CX P w) P w M.K M.mg base N qual (defScope st) fa cdv A outer s H E) cx s1 := by
    obtain ⟨c, e⟩ := cell_has (n := s.heap.objs.size + 1) hcx
    have q := xx.cell cx c e
    rw [bindC_get ndP hj hy (by show (defScope st).names.lookup cx ≠ _; rw [hcx]; decide)] at q
    exact ⟨c, y, t, e, q, t0, Nat.lt_of_lt_of_le t1 tk⟩
  have hq : tS M (fun cls d _ H => E cls d H) H F1 [] O' [] g { nx := fun _ H' => Q .non H', rt := Q } (start N vs) H := by
    unfold runF at w1
    split at w1
    · refine ⟨startD N.length ds, F1, ⟨einv_start dm rp, fun _ _ e => e, fun _ e => e, fun _ e => .inl e, fun i d p h => (nomatch h)⟩, ?_⟩
      cases eo : g (startD N.length ds) with
      | nxt δ' => rw [eo] at w1; exact fun σ' H' F' I => w1 .non H' F' I.g0 .non
      | ret d => rw [eo] at w1; exact w1
      | brk δ' => rw [eo] at w1; exact w1.elim
      | cnt δ' => rw [eo] at w1; exact w1.elim
      | exc n δ' => rw [eo] at w1; exact fun σ' H' F' I => w1 H' F' I.g0
      | bad => rw [eo] at w1; exact w1.elim
    · exact w1.elim
  refine wpAny_mono ((body cdv A outer s H E (hr.deeper _) F1).run [] s1 (start N vs) H _ ck I hq) (fun fl s' hs => ?_) fun e s' hs => hs
  have fin : ∀ {σ' : L2.St} {H' : Hp} {v : V} {u : Value}, L2.Inv (cxOf (L2.CX P w) P w M.K M.mg base N qual (defScope st) fa cdv A outer s H E) [] σ' H' s' → RelV v u → Q v H' → CE outer P w H s Q u s' :=
    fun {σ' H' v u} J rv q => ⟨v, H', J.os, J.bare, J.base, J.hok, rv, q⟩
  cases fl with
  | ret u =>
    obtain ⟨v, σ', H', J, rv, q⟩ := hs
    exact fin J rv q
  | next =>
    obtain ⟨σ', H', J, q⟩ := hs
    exact fin (v := V.non) (u := Value.none) J rfl q
  | brk =>
    obtain ⟨_, _, _, q⟩ := hs
    exact False.elim q
  | cont =>
    obtain ⟨_, _, _, q⟩ := hs
    exact False.elim q
/-- a def whose body may begin with a token out -/
theorem fn_mkT {M : Md} {P : Program} {w : World} {base : Heap} {x qual : Str} {st : Stmt} {fa : Addr} {fd : FuncData} {N ps : List Str} {k : Nat} {g : DEnv → Out} {O' : List Nat} (hmg : M.mg x = some (.ref fa)) (F : Fun M.K x qual st fa fd) (S : FnScope N ps (defScope st))
    (hb : Binds M.K fd ps []) (hnc : ((defScope st).names.all fun y => match y.2 with | .cell => false | _ => true) = true) (hps : 1 ≤ ps.length)
    (body : ∀ (cdv : Value) (A : Around) (outer : List Env) (s : Shared) (H : Hp) (E : XK), Room k (A.deeper (envOfC qual (defScope st) s.heap.objs.size fa cdv)) → ∀ (F0 : Addr → Prop),
      PSq T1 (cxOf (L2.CX P w) P w M.K M.mg base N qual (defScope st) fa cdv A outer s H E) (defBody st) (tS M (fun cls d _ H => E cls d H) H F0 [] O' [] g)) :
    FnD P w M base (k + 1) x (runF ps.length N.length g) := by
  have nc : ∀ y ∈ (defScope st).names, y.2 ≠ .cell := fun y hy z => by
    have := List.all_eq_true.1 hnc y hy
    rw [z] at this
    exact Bool.noConfusion this
  obtain ⟨oc, od, kV, doc, pm, an, cdv, ct, osl, e, lk, hcd⟩ := id F.ex
  subst e
  refine ⟨fa, _, ps, hmg, F.kp, hb, fn_ofT lk hcd S nc hps (fun vs H Q E ⟨F, ds, _, r, w⟩ => ?_) fun A outer s H vs Q E hr ⟨F1, ds, dm, r, w⟩ => ?_⟩
  · unfold runF at w
    split at w
    · rename_i h; rw [r.length]; exact h
    · exact w.elim
  · unfold runF at w
    split at w
    · refine ⟨_, fun pins s1 σ H1 D h0 I q => (body cdv A outer s H E hr F1).run pins s1 σ H1 D h0 I q, startD N.length ds, F1, ⟨einv_start dm r, fun _ _ e => e, fun _ e => e, fun _ e => .inl e, fun i d p h => (nomatch h)⟩, ?_⟩
      cases eo : g (startD N.length ds) with
      | nxt δ' => rw [eo] at w; exact fun σ' H' F' I => w .non H' F' I.g0 .non
      | ret d => rw [eo] at w; exact w
      | brk δ' => rw [eo] at w; exact w.elim
      | cnt δ' => rw [eo] at w; exact w.elim
      | exc n δ' => rw [eo] at w; exact fun σ' H' F' I => w H' F' I.g0
      | bad => rw [eo] at w; exact w.elim
    · exact w.elim
theorem qs_ret {X : Cx} {M : Md} {W : WX} {H0 : Hp} {F0 : Addr → Prop} {O O' Ol : List Nat} {f : DEnv → R D} {e : Expr} {pos : Pos} {P : Shared → Prop} (h : PEq P X e (tD M W O f)) : PSq P X [.Return (some e) pos] (tS M W H0 F0 O O' Ol fun δ => inS δ (f δ) fun d => .ret d) := ⟨fun pins s σ H E p I ⟨δ, F, J, w⟩ => by
  refine wpAny_execs_cons (wpAny_Return_some (thn (h.run pins s σ H E.rt p I (tE.inS J w fun d v H' F' _ g r w' => w' v H' F' (J.g0.trans g) r)) fun v s1 ⟨x, H1, I1, r1, q1⟩ => ?_))
  exact ⟨x, σ, H1, I1, r1, q1⟩⟩
section
variable {X : Cx} {M : Md} {W : WX} {O : List Nat} {pos : Pos}
/-- f(a, x), x's token known -/
theorem q_call2 (i1 i2 : Nat) {k : Nat} {fx a x : Str} {m : List D → R D} {p pa px : Pos} (F : FnDT X.prog X.w M X.base k fx m 1) (hM : On X M) (hr : Room k X.A) (tk : Takes X W) (hO1 : O.contains i1 = false := by rfl) (hO2 : O.contains i2 = false := by rfl) (hg : Gl X fx := by rfl)
    (hN1 : X.N[i1]? = some a := by rfl) (hv1 : Vis X.env.scope a := by first | exact Or.inl rfl | exact Or.inr (Or.inl rfl) | exact Or.inr (Or.inr rfl)) (hN2 : X.N[i2]? = some x := by rfl) (hx : X.env.scope.names.lookup x = some .local := by rfl)
    (hdb : (fx == ("__debug__" : Str)) = false := by decide) (hd1 : (a == ("__debug__" : Str)) = false := by decide) (hc1 : (a == ("__classdict__" : Str)) = false := by decide) (hd2 : (x == ("__debug__" : Str)) = false := by decide)
    (he : starEach [.Name a pa, .Name x px] X.env = (false, eval (.Name a pa) X.env) :: starEach [.Name x px] X.env := by rfl) (he2 : starEach [.Name x px] X.env = (false, eval (.Name x px) X.env) :: starEach [] X.env := by rfl) (hpl : (backTo pos (starEach [.Name x px] X.env)).any (·.1) = false := by rfl) :
    PEq (Tl X x) X (.Call (.Name fx p) [.Name a pa, .Name x px] [] pos) (tD M W O (callV m (consA (getV i1) (consA (getV i2) nilA)))) := by
  obtain ⟨fa, fd, ps, h1, h2, h3, len, h4⟩ := F.ex
  rw [← hM.K] at h2 h3
  rw [← hM.mg] at h1
  refine ⟨fun pins s σ H Q T I ⟨δ, F, E, w⟩ => ?_⟩
  obtain ⟨mm, y, t, hn, hm, t0, t1⟩ := T
  -- the slots
  have w0 := w
  unfold callV consA nilA at w0
  have gv : ∀ {i : Nat} {d : D}, getV i δ = .ok d → δ[i]? = some (some d) := fun {i d} h => by
    unfold getV at h
    split at h
    · cases h; assumption
    · cases h
  obtain ⟨d1, e1, d2, e2, w⟩ : ∃ d1, δ[i1]? = some (some d1) ∧ ∃ d2, δ[i2]? = some (some d2) ∧ (m [d1, d2]).wp (fun d => ∀ v H' F', Grow F H F' H' → Rep M F' H' v d → Q v H') (fun n => ∀ H' F', Grow F H F' H' → W (.ref (M.xc n)) none σ H') := by
    cases g1 : getV i1 δ with
    | ok d1 =>
      cases g2 : getV i2 δ with
      | ok d2 => rw [g1, g2] at w0; exact ⟨d1, gv g1, d2, gv g2, w0⟩
      | exc n => unfold getV at g2; split at g2 <;> cases g2
      | bad => rw [g1, g2] at w0; exact w0.elim
    | exc n => unfold getV at g1; split at g1 <;> cases g1
    | bad => rw [g1] at w0; exact w0.elim
  obtain ⟨v1, s1, r1⟩ := E.fr i1 d1 (by intro h; simp [h] at hO1) e1
  obtain ⟨v2, s2, r2⟩ := E.fr i2 d2 (by intro h; simp [h] at hO2) e2
  have rel : RelV v2 (.str y t) := by
    obtain ⟨m', hn', hl⟩ := I.loc
    obtain ⟨u, ru, lk⟩ := hl i2 x v2 hN2 s2 (.inl hx)
    rcases lk with ⟨_, hm'⟩ | ⟨hk, _⟩
    · have : m' x = mm x := by
        obtain ⟨o, es, ep, q1, q2, q3, q4⟩ := hn
        obtain ⟨o', es', ep', q1', q2', q3', q4'⟩ := hn'
        rw [q1] at q1'
        cases q1'
        rw [q2] at q2'
        cases q2'
        rw [← q4, ← q4']
      rw [hm', hm] at this
      cases this
      exact ru
    · exfalso
      have hk : X.env.scope.names.lookup x = some .cell ∨ X.env.scope.names.lookup x = some .free := hk
      rw [hx] at hk
      rcases hk with z | z <;> cases z
  refine wpAny_Call_Name_kw (ld_glob I hg h1 ?_ hdb)
  refine PySem.W.callWith_K (h₀ := X.base) I.ok.mod.kin h2 ?_ he hpl
  rw [he]
  show wpAny _ _ (spliced ((false, eval (.Name a pa) X.env) :: backTo pos (starEach [.Name x px] X.env))) _ _ s
  refine Calls.spliced_cons (raw_name hN1 hv1 I s1 (fun u1 ru1 => ?_) hd1 hc1)
  rw [he2]
  show wpAny _ _ (spliced ((false, eval (.Name x px) X.env) :: backTo pos (starEach [] X.env))) _ _ s
  refine Calls.spliced_cons (wpAny_Name (wpAny_loadName_local I.ok.kind hx hn hm ?_) hd2)
  refine Calls.spliced_nil ?_
  have hsp : spD M m [v1, v2] H Q (WE W σ) := ⟨F, [d1, d2], E.dom, .cons r1 (.cons r2 .nil), R.wp_mono w (fun d _ q v H' F' g r => q v H' F' g r) fun n q H' F' g => q H' F' g⟩
  have hl := len _ _ _ _ hsp
  have b := h3 s [u1, .str y t] I.kIn (by rw [List.append_nil]; exact hl)
  rw [List.append_nil] at b
  refine ⟨I.kIn, wpAny_call (codeAny_mono (h4 X.A X.stack s H ⟨[u1, .str y t], []⟩ [u1, .str y t] [v1, v2] Q (WE W σ) y t hr (by have := I.env0; rw [hM.K, hM.mg] at this; exact this) b (.cons ru1 (.cons rel .nil)) rfl t0 t1 hsp) fun r s' hq => ?_)⟩
  cases r with
  | error e => exact passAt tk σ pins H s e s' I hq
  | ok fl =>
    cases fl with
    | ret u => exact I.after hq
    | next => exact False.elim hq
    | brk => exact False.elim hq
    | cont => exact False.elim hq
end
end CL

set_option maxHeartbeats 3200000
namespace CL
open PySem PySem.Spec PyProof.Rows L2

/-! ### sorted(set(xs)), xs a list of ints -/
section
variable {P : Program} {w : World} {A : Around} {E : Value → Shared → Prop} {s : Shared}
theorem ints_get {vs : List Value} {ns : List Int} {v : Value} (h : IntsAre vs ns) : ∀ {i : Nat}, vs[i]? = some v → ∃ k t, ns[i]? = some k ∧ v = .int k t := by
  induction h with
  | nil => intro i e; simp at e
  | cons n t h ih =>
    intro i e
    cases i with
    | zero => simp at e; exact ⟨_, _, rfl, e.symm⟩
    | succ i => obtain ⟨k, t, h3, h4⟩ := ih (by simpa using e); exact ⟨k, t, by simpa using h3, h4⟩
theorem call_set_lstI {l : Addr} {its : Array Value} (ks : List Int) {Q : Value → Shared → Prop} (hh : A.handled = none) (hl : s.heap.IsList l its) (hi : IntsAre its.toList ks) (hb : ks.length + 1 < scanBound)
    (fin : ∀ (h' : Heap) (tk c : Nat), SetR w h' s.heap.objs.size (fun j => decide (j ∈ ks)) c → c ≤ ks.length → (∀ b o, s.heap.get? b = some o → h'.get? b = some o) → Q (.ref s.heap.objs.size) { s with heap := h', toks := tk }) :
    wpAny (model P w) A (call (.type "set") [.ref l]) Q E s := by
  have hsz : its.size = ks.length := by rw [← Array.length_toList]; exact IntsAre.length hi
  obtain ⟨c0, tl0, mro0⟩ := F.called_set.mro
  have made0 := F.called_set.made
  have sub0 := F.called_set.sub
  refine wpAny_call (codeAny_of_tree ?_)
  show wpAny _ _ (callAny (.type "set") _) _ _ _
  refine wpAny_pure ⟨Code.quiet_builtin _ (by decide +kernel), codeAny_builtin F.entry_type_call ?_⟩
  rw [Around.under_plain (weight_type_call_type "set" [.ref l] []) rfl]
  have nt0 := F.called_set.notType
  have cc0 := F.called_set.canCreate
  have tc0 := F.typeCall_set_1 (.ref l)
  repeat (any_goals (first | assumption | wp_step))
  let nw : Obj := { cls := .type "set", dict := none, data := .set #[] 0 (.fresh 0 0 (!w.params.followText "set-order")) }
  refine codeAny_mono (code_set_led1 (.ref l) (E := E) (Q₁ := fun obj s1 => obj = .ref s.heap.objs.size ∧ s1 = { s with heap := s.heap.push nw }) ⟨rfl, rfl⟩) fun r s1 hr => ?_
  cases r with
  | error e => exact hr
  | ok fl =>
    cases fl with
    | ret obj =>
      obtain ⟨rfl, rfl⟩ := hr
      have gS : (s.heap.push nw).get? s.heap.objs.size = some nw := Heap.get?_push_size _ rfl
      have tS : Shared.TypeIs { s with heap := s.heap.push nw } (.ref s.heap.objs.size) "set" := ⟨_, gS, rfl⟩
      have il0 := F.called_set.init.lookup
      have ib0 := F.called_set.init.bind (.ref s.heap.objs.size)
      repeat (any_goals (first | assumption | wp_step))
      refine codeAny_mono (codeAny_call_builtin (R := wants (fun r s2 => r = .none ∧ ∃ h' tk c, s2 = { s with heap := h', toks := tk } ∧ SetR w h' s.heap.objs.size (fun j => decide (j ∈ ks)) c ∧ c ≤ ks.length ∧
          (∀ b o, s.heap.get? b = some o → h'.get? b = some o)) E) F.called_set.init.plain F.entry_set_init (check_set_init_1 tS ?_)) fun r2 s2 hr2 => ?_
      · obtain ⟨ol, hol, hcl, nl, hdl⟩ := hl
        have gl : (s.heap.push nw).get? l = some ol := Heap.get?_push_of_some _ hol
        have ll : (s.heap.push nw).IsList l its := ⟨ol, gl, hcl, nl, hdl⟩
        obtain ⟨ocls, odict, odata, oslots⟩ := ol
        simp only at hcl hdl
        subst hcl
        subst hdl
        have ss1 := F.sub_list_set
        have ss2 := F.sub_list_frozenset
        have nd0 : (Value.type "list" == Value.type "dict") = false := by decide
        unfold Builtin.«set.__init__» noKeywords Builtin.Frozenset.updateFrom
        generalize hPI : pyIter = PI
        wp_walk
        subst hPI
        have hh3 : A.in1.in1.in1.handled = none := by simp [hh]
        have lt0 : l < s.heap.objs.size := Heap.lt_size hol
        have ne0 : l ≠ (s.heap.push nw).objs.size := by rw [Heap.size_push]; exact Nat.ne_of_lt (Nat.lt_succ_of_lt lt0)
        have nS : s.heap.objs.size ∉ [(s.heap.push nw).objs.size, l] := by
          rw [Heap.size_push]
          simp only [List.mem_cons, List.not_mem_nil, or_false, not_or]
          exact ⟨Nat.ne_of_lt (Nat.lt_succ_self _), Nat.ne_of_gt lt0⟩
        have vals : ∀ (i : Nat) (v : Value), its[i]? = some v → ∃ k t, ks[i]? = some k ∧ v = .int k t := fun i v hv => by
          have q : its.toList[i]? = some v := by rw [Array.getElem?_toList]; exact hv
          exact ints_get hi q
        refine wpAny_pyIter_list ll (wpAny_bind (wpAny_runValue (codeAny_mono (set_update_ints (Walks.list hh3 _ l ne0 its).toS s.heap.objs.size nS ks hsz hb vals (R := wants (fun r s2 => r = .none ∧ ∃ h' tk c, s2 = { s with heap := h', toks := tk } ∧ SetR w h' s.heap.objs.size (fun j => decide (j ∈ ks)) c ∧ c ≤ ks.length ∧ (∀ b o, s.heap.get? b = some o → h'.get? b = some o)) E)
          (its.size - 0) 0 _ (by omega) (Nat.zero_le _) ?_ ⟨0, Nat.le_refl _, setR_new_at (Heap.get?_push_of_some _ gS)⟩ fun s4 c mv hc hS => ?_) fun r s5 h5 => ?_)))
        · exact ⟨⟨_, Heap.get?_push_size _ rfl, rfl, rfl⟩, ⟨_, Heap.get?_push_of_some _ gl, rfl, nl, rfl⟩⟩
        · obtain ⟨h4, g4, d4, t4, o4⟩ := s4
          have eg : g4 = s.gens := mv.gens
          have ed : d4 = s.drawn := mv.drawn
          have eo : o4 = s.os := mv.os
          subst eg; subst ed; subst eo
          refine ⟨rfl, h4, t4, c, rfl, hS, by omega, fun b o e => ?_⟩
          have lb := Heap.lt_size e
          refine mv.heap b o ?_ (Heap.get?_push_of_some _ (Heap.get?_push_of_some _ e))
          rw [Heap.size_push]
          simp only [List.mem_cons, List.not_mem_nil, or_false, not_or]
          exact ⟨Nat.ne_of_lt lb, Nat.ne_of_lt (Nat.lt_succ_of_lt lb)⟩
        · cases r with
          | error e => exact h5
          | ok f5 =>
            cases f5 with
            | ret v5 => exact wpAny_pure (wpAny_pure ⟨rfl, h5.2⟩)
            | _ => exact h5.elim
      · cases r2 with
        | error e => exact hr2
        | ok f2 =>
          cases f2 with
          | ret r =>
            obtain ⟨rfl, h', tk, c, rfl, hS', hc', hk'⟩ := hr2
            repeat (any_goals (first | assumption | wp_step))
            exact fin _ _ c hS' hc' hk'
          | _ => exact hr2.elim
    | _ => exact hr.elim
end
section
variable {X : Cx} {M : Md} {W : WX} {O : List Nat} {f : DEnv → R D} {pos : Pos}
/-- ints ascending, each once -/
def insI (k : Int) : List Int → List Int
  | [] => [k]
  | x :: l => if k < x then k :: x :: l else if k = x then x :: l else x :: insI k l
def usort : List Int → List Int
  | [] => []
  | k :: l => insI k (usort l)
theorem mem_insI (k : Int) : ∀ (l : List Int) (x : Int), x ∈ insI k l ↔ x = k ∨ x ∈ l
  | [], x => by simp [insI]
  | y :: l, x => by
    unfold insI
    split
    · simp
    · split
      · rename_i h; subst h; simp
      · simp only [List.mem_cons, mem_insI k l x]
        constructor
        · rintro (h | h | h) <;> simp [h]
        · rintro (h | h | h) <;> simp [h]
theorem mem_usort : ∀ (l : List Int) (x : Int), x ∈ usort l ↔ x ∈ l
  | [], x => by simp [usort]
  | k :: l, x => by rw [usort, mem_insI, mem_usort l x, List.mem_cons]
theorem insI_lt (k : Int) : ∀ l : List Int, l.Pairwise (· < ·) → (insI k l).Pairwise (· < ·)
  | [], _ => by simp [insI]
  | y :: l, h => by
    obtain ⟨h1, h2⟩ := List.pairwise_cons.mp h
    unfold insI
    split
    · rename_i hk
      refine List.pairwise_cons.mpr ⟨fun z hz => ?_, h⟩
      rcases List.mem_cons.mp hz with e | e
      · rw [e]; exact hk
      · exact Int.lt_trans hk (h1 z e)
    · split
      · exact h
      · rename_i ha hb
        refine List.pairwise_cons.mpr ⟨fun z hz => ?_, insI_lt k l h2⟩
        rcases (mem_insI k l z).mp hz with e | e
        · omega
        · exact h1 z e
theorem usort_lt : ∀ l : List Int, (usort l).Pairwise (· < ·)
  | [] => List.Pairwise.nil
  | k :: l => insI_lt k _ (usort_lt l)
theorem lt_unique : ∀ {a b : List Int}, a.Pairwise (· < ·) → b.Pairwise (· < ·) → (∀ x, x ∈ a ↔ x ∈ b) → a = b
  | [], [], _, _, _ => rfl
  | [], y :: b, _, _, h => by have := (h y).mpr (by simp); simp at this
  | x :: a, [], _, _, h => by have := (h x).mp (by simp); simp at this
  | x :: a, y :: b, ha, hb, h => by
    obtain ⟨a1, a2⟩ := List.pairwise_cons.mp ha
    obtain ⟨b1, b2⟩ := List.pairwise_cons.mp hb
    have e : x = y := by
      rcases List.mem_cons.mp ((h x).mp (by simp)) with e | e
      · exact e
      · rcases List.mem_cons.mp ((h y).mpr (by simp)) with e' | e'
        · exact e'.symm
        · have := a1 y e'; have := b1 x e; omega
    subst e
    rw [lt_unique a2 b2 fun z => ⟨fun hz => ?_, fun hz => ?_⟩]
    · rcases List.mem_cons.mp ((h z).mp (by simp [hz])) with e | e
      · have := a1 z hz; omega
      · exact e
    · rcases List.mem_cons.mp ((h z).mpr (by simp [hz])) with e | e
      · have := b1 z hz; omega
      · exact e
theorem cr_setL (hc : X.calm = true) : CallR X (.type "set") (fun vs H Q => ∃ (a : Addr) (ns : List Int), vs = [V.ref a] ∧ SqL X.K H a (ns.map V.int) ∧ ns.length < 64 ∧ ∀ p c, c ≤ ns.length → H p = none → Q (.ref p) (upd H p (SetO X.w p (fun j => decide (j ∈ ns)) c))) := by
  intro pins s σ H vs us Q I r h
  obtain ⟨a, ns, rfl, hs, h64, q⟩ := h
  obtain ⟨its, rv, hl, hz⟩ := I.list hs
  rw [Vals.ref1 r]
  refine call_set_lstI ns (I.ok.hd hc) hl.isList (by simpa using rv.ints) (by unfold scanBound; omega) fun h' tk c hS hcl hk => ?_
  have J : L2.Inv X pins σ (upd H s.heap.objs.size (SetO X.w s.heap.objs.size (fun j => decide (j ∈ ns)) c)) { s with heap := h', toks := tk } :=
    I.laid (t' := tk) hk (Nat.le_refl _) (setO_new hS)
  exact ⟨.ref _, _, J, rfl, q _ c hcl (I.hok.fresh (Nat.le_refl _))⟩
/-- sorted(set(ints)) -/
def sortSet (f : DEnv → R D) : DEnv → R D := fun δ => (f δ).bind fun d => match d with
  | .lst ds => (match allInt ds with
    | some ns => if ns.length < 64 then .ok (.lst ((usort ns).map D.int)) else .bad
    | none => .bad)
  | _ => .bad
theorem sd_sortSet {a : Expr} {p p2 q : Pos} (hc : X.calm = true) (hm : X.mg "sorted" = none) (hm2 : X.mg "set" = none) (ha : PE X a (tD M W O f)) (hg : Gl X "sorted" := by rfl) (hg2 : Gl X "set" := by rfl)
    (na : starEach [a] X.env = (false, eval a X.env) :: starEach [] X.env := by rfl) (hs1 : starEach [.Call (.Name "set" p2) [a] [] q] X.env = (false, eval (.Call (.Name "set" p2) [a] [] q) X.env) :: starEach [] X.env := by rfl) :
    PE X (.Call (.Name "sorted" p) [.Call (.Name "set" p2) [a] [] q] [] pos) (tD M W O (sortSet f)) := by
  refine pe_imp (pe_callB (cr_sortedSet hc) hg hm (by decide +kernel) (pa_cons (pe_callTy (cr_setL hc) hg2 hm2 (by decide +kernel) (pa_cons ha pa_nil na) (he := na) (hpl := rfl)) pa_nil hs1) (he := hs1) (hpl := rfl)) fun σ H Q ⟨δ, F, E, w⟩ => ?_
  show tD M W O f σ H _
  refine tE.one E w fun d v H1 F1 ed g1 r w1 => ?_
  cases d with
  | lst ds =>
    cases r with
    | lst h1 h2 h3 =>
      simp only at w1
      split at w1
      · rename_i ns hns
        rw [allInt_eq hns] at h3
        have e1 := h3.ints
        split at w1
        · rename_i h64
          refine ⟨_, ns, rfl, SqL.of (by rw [h2, e1]), h64, fun p c hcl hp => ?_⟩
          refine ⟨p, _, c, rfl, upd_same, Nat.lt_of_le_of_lt hcl h64, fun ns' p' hs hm hl hp' => ?_⟩
          have g2 := Grow.newT (o := SetO X.w p (fun j => decide (j ∈ ns)) c) g1.dom hp
          have g3 := Grow.newL (o := .lst (ns'.map V.int)) g2.dom hp'
          have en : ns' = usort ns := lt_unique hs (usort_lt ns) fun x => by rw [hm x, mem_usort]; simp
          rw [en]
          rw [en] at g3
          exact w1 (.ref p') _ _ ((g1.trans g2).trans g3) (.lst (.inr rfl) upd_same RepAll.of_ints)
        · exact w1.elim
      · exact w1.elim
  | _ => exact w1.elim
end
end CL

set_option maxHeartbeats 1000000
namespace CL
open PySem PySem.Spec PyProof.Rows L2
/-! ### list(text) -/
section
variable {X : Cx} {M : Md} {W : WX} {O : List Nat} {fs : DEnv → R (List D)} {pos : Pos}
def D.listS : List D → R D
  | [.str s] => .ok (.lst (s.map fun c => .str [c]))
  | _ => .bad
theorem cr_listS (hc : X.calm = true) : CallR X (.type "list") (fun xs H Q => ∃ z : Str, xs = [.str z] ∧ z.cps.size ≤ lim ∧ ∀ p, H p = none → Q (.ref p) (upd H p (.lst ((z.cps.toList.map fun c => (⟨#[c]⟩ : Str)).map V.str)))) := by
  intro pins s σ H xs us Q I r ⟨z, ex, hz, q⟩
  subst ex
  obtain ⟨u, eu, rx⟩ := vals1 r
  subst eu
  obtain ⟨t, rfl⟩ := rx
  have hz' : z.cps.size ≤ sizeLine := by rw [lim_eq]; exact hz
  refine call_list_str (I.ok.hd hc) z t (hn := hz') fun h' tk acc c kp hS hacc => ?_
  have hl : acc.toList.length = z.cps.toList.length := by rw [Array.length_toList, hacc.1, Array.length_toList]
  have hA : StrsAre acc.toList (z.cps.toList.map fun c => (⟨#[c]⟩ : Str)) := signs_at _ _ hl fun j v e => by
    obtain ⟨c, t', e1, e2⟩ := hacc.2 j v (by rw [← Array.getElem?_toList]; exact e)
    exact ⟨c, t', by simpa using e1, e2⟩
  refine ⟨.ref _, upd H s.heap.objs.size (.lst ((z.cps.toList.map fun c => (⟨#[c]⟩ : Str)).map V.str)), I.laid (t' := tk) kp (Nat.le_refl _) ?_, rfl, q _ (I.hok.fresh (Nat.le_refl _))⟩
  exact ⟨by simpa using hz', acc.toList, c, vals_of_strs hA, by rw [Array.toArray_toList]; exact hS⟩
theorem cd_listS (hc : X.calm = true) : CallR X (.type "list") (rC M D.listS) := by
  intro pins s σ H vs us Q I rv ⟨F, ds, dm, r, w⟩
  unfold D.listS at w
  split at w
  · rename_i cs
    obtain ⟨v, rfl, r1⟩ := all2_one r
    cases (show Rep M F H v _ from r1) with
    | str ok =>
      refine cr_listS hc pins s σ H _ us Q I rv ⟨_, rfl, by simpa using ok.1, fun p hp => ?_⟩
      have r2 : RepAll M (fun a => F a ∨ a = p) (upd H p (.lst ((cs.map fun c => (⟨#[c]⟩ : Str)).map V.str))) ((cs.map fun c => (⟨#[c]⟩ : Str)).map V.str) (cs.map fun c => D.str [c]) := by
        have := RepAll.of_strs (M := M) (F := fun a => F a ∨ a = p) (H := upd H p (.lst ((cs.map fun c => (⟨#[c]⟩ : Str)).map V.str))) (ss := cs.map fun c => [c]) (fun s hs => by
          obtain ⟨c, hc, rfl⟩ := List.mem_map.mp hs
          exact ⟨by simp [lim], fun c' h' => by simp at h'; subst h'; exact ok.2 _ hc⟩)
        simpa [List.map_map, Function.comp_def] using this
      exact w (.ref p) _ _ (Grow.newL dm hp) (.lst (.inr rfl) upd_same r2)
  · exact w.elim
end
@[simp] theorem ev_listS (s : List Nat) : D.listS [.str s] = .ok (.lst (s.map fun c => D.str [c])) := id rfl
@[simp] theorem ev_sortSet {f : DEnv → R D} {δ : DEnv} : sortSet f δ = (f δ).bind fun d => match d with | .lst ds => (match allInt ds with | some ns => if ns.length < 64 then R.ok (.lst ((usort ns).map D.int)) else .bad | none => .bad) | _ => .bad := id rfl
end CL

set_option maxHeartbeats 1000000
namespace CL
open PySem PySem.Spec PyProof.Rows L2
/-! ### dicts whose keys are tuples, values ints -/
def okKey (d : D) : Bool := match nk d with
  | some k => decide (k.depth ≤ 8)
  | none => false
theorem okKey_ex {d : D} (h : okKey d = true) : ∃ k, nk d = some k ∧ k.depth ≤ 8 := by
  unfold okKey at h
  split at h
  · rename_i k e; exact ⟨k, e, by simpa using h⟩
  · cases h
def dget (kds : List (D × D)) (d : D) : Option D := (kds.find? fun p => decide (nk p.1 = nk d)).map (·.2)
def dput (kds : List (D × D)) (d v : D) : List (D × D) := if (kds.any fun p => decide (nk p.1 = nk d)) then kds.map (fun p => if nk p.1 = nk d then (p.1, v) else p) else kds ++ [(d, v)]
section
variable {X : Cx} {M : Md} {F : Addr → Prop} {H : Hp} {P : Program} {w : World} {h : Heap}
mutual
theorem Rep.key (ok : HOk P w H h) : ∀ {v : V} {d : D} {k : NestedKey} {u : Value}, Rep M F H v d → nk d = some k → RelV v u → NestedIs h k u
  | _, _, _, _, .int i, e, r => by
    simp only [nk, Option.some.injEq] at e; subst e
    obtain ⟨t, rfl⟩ := r
    exact .int i t
  | _, _, _, _, .str hs, e, r => by
    simp only [nk, Option.some.injEq] at e; subst e
    obtain ⟨t, rfl⟩ := r
    exact .text _ t
  | _, _, _, _, .tup h1 h2, e, r => by
    simp only [nk, Option.map_eq_some_iff] at e
    obtain ⟨ks, e, rfl⟩ := e
    obtain rfl : _ = Value.ref _ := r
    obtain ⟨_, its, rv, o, ho, hc, n, hd⟩ := (show ObjOk P w H h _ (.tup _) from ok _ _ h1)
    exact .tup ho hc hd (by simpa using RepAll.key ok h2 e rv)
  | _, _, _, _, .non, e, _ => by simp [nk] at e
  | _, _, _, _, .bl _, e, _ => by simp [nk] at e
  | _, _, _, _, .lst _ _ _, e, _ => by simp [nk] at e
  | _, _, _, _, .scr _, e, _ => by simp [nk] at e
  | _, _, _, _, .fn _ _, e, _ => by simp [nk] at e
  | _, _, _, _, .raw _, e, _ => by simp [nk] at e
  | _, _, _, _, .dct _ _ _, e, _ => by simp [nk] at e
theorem RepAll.key (ok : HOk P w H h) : ∀ {vs : List V} {ds : List D} {ks : List NestedKey} {us : List Value}, RepAll M F H vs ds → nks ds = some ks → Vals vs us → NestedAll h ks us
  | _, _, _, _, .nil, e, r => by
    simp only [nks, Option.some.injEq] at e; subst e
    cases r
    exact .nil
  | _, _, _, _, .cons h1 h2, e, r => by
    simp only [nks] at e
    split at e
    · rename_i k ks e1 e2
      cases e
      cases r with
      | cons r1 r2 => exact .cons (Rep.key ok h1 e1 r1) (RepAll.key ok h2 e2 r2)
    · cases e
end
structure XE (M : Md) (F : Addr → Prop) (H : Hp) (x : NestedKey × Addr × Value) (p : D × D) : Prop where
  k : nk p.1 = some x.1
  dp : x.1.depth ≤ 8
  rp : Rep M F H (.ref x.2.1) p.1
  v : ∃ i t, x.2.2 = .int i t ∧ p.2 = .int i
abbrev XR (M : Md) (F : Addr → Prop) (H : Hp) := Paired (XE M F H)
theorem XR.mem {xs : List (NestedKey × Addr × Value)} {kds : List (D × D)} (r : XR M F H xs kds) : ∀ x ∈ xs, ∃ p ∈ kds, XE M F H x p := by
  induction r with
  | nil => intro x hx; simp at hx
  | cons h t ih =>
    intro x hx
    rcases List.mem_cons.mp hx with e | e
    · subst e; exact ⟨_, by simp, h⟩
    · obtain ⟨p, hp, q⟩ := ih x e; exact ⟨p, by simp [hp], q⟩
theorem XR.mem' {xs : List (NestedKey × Addr × Value)} {kds : List (D × D)} (r : XR M F H xs kds) : ∀ p ∈ kds, ∃ x ∈ xs, XE M F H x p := by
  induction r with
  | nil => intro x hx; simp at hx
  | cons h t ih =>
    intro x hx
    rcases List.mem_cons.mp hx with e | e
    · subst e; exact ⟨_, by simp, h⟩
    · obtain ⟨p, hp, q⟩ := ih x e; exact ⟨p, by simp [hp], q⟩
theorem RepEs.out (hw : M.hk = fun k => k.hash w) : ∀ {es : List DictEntry} {kds : List (D × D)}, RepEs M F H es kds → ∃ xs : List (NestedKey × Addr × Value), es = xs.map (entryOfKey (nestedKind P w)) ∧ XR M F H xs kds ∧ (xs.map (·.1)).Nodup
  | _, _, .nil => ⟨[], rfl, .nil, List.nodup_nil⟩
  | _, _, .cons (b := b) (i := i) (t := t) (k := k) e1 e2 e3 r h => by
    obtain ⟨xs, q1, q2, q3⟩ := RepEs.out hw h
    refine ⟨(k, b, .int i t) :: xs, ?_, .cons ⟨e1, e2, r, i, t, rfl, rfl⟩ q2, ?_⟩
    · rw [List.map_cons, ← q1]
      congr 1
      show _ = DictEntry.mk (NestedKey.hash w k) _ _
      rw [hw]
    · rw [List.map_cons, List.nodup_cons]
      refine ⟨fun hm => ?_, q3⟩
      obtain ⟨x, hx, e⟩ := List.mem_map.mp hm
      obtain ⟨p, hp, z⟩ := q2.mem x hx
      exact e3 p hp (by rw [z.k, e])
theorem RepEs.mk (hw : M.hk = fun k => k.hash w) : ∀ {xs : List (NestedKey × Addr × Value)} {kds : List (D × D)}, XR M F H xs kds → (xs.map (·.1)).Nodup → RepEs M F H (xs.map (entryOfKey (nestedKind P w))) kds
  | _, _, .nil, _ => .nil
  | _, _, .cons (a := x) (b := p) (l₁ := xs) (l₂ := kds) h t, nd => by
    rw [List.map_cons, List.nodup_cons] at nd
    obtain ⟨k, b, v⟩ := x
    obtain ⟨d, dv⟩ := p
    obtain ⟨i, tk, e1, e2⟩ := h.v
    simp only at e1 e2
    subst e1; subst e2
    have ih := RepEs.mk hw t nd.2
    rw [List.map_cons]
    have e : entryOfKey (nestedKind P w) (k, b, .int i tk) = ⟨M.hk k, .ref b, .int i tk⟩ := by
      show DictEntry.mk (NestedKey.hash w k) _ _ = _
      rw [hw]
    rw [e]
    refine .cons h.k h.dp (fun q hq z => ?_) h.rp ih
    obtain ⟨x, hx, y⟩ := XR.mem' t q hq
    rw [y.k] at z
    cases z
    exact nd.1 (List.mem_map.mpr ⟨x, hx, rfl⟩)
theorem at_dget {xs : List (NestedKey × Addr × Value)} {kds : List (D × D)} (r : XR M F H xs kds) {d : D} {k : NestedKey} (e : nk d = some k) :
    match dget kds d with | some v => ∃ b i t, atKey xs k = some (b, .int i t) ∧ v = .int i | none => atKey xs k = none := by
  unfold dget atKey
  rw [e]
  induction r with
  | nil => rfl
  | @cons x p xs kds h t ih =>
    rw [List.find?_cons, List.find?_cons]
    by_cases hk : x.1 = k
    · have h1 : decide (nk p.1 = some k) = true := decide_eq_true (by rw [h.k, hk])
      have h2 : decide (x.1 = k) = true := decide_eq_true hk
      rw [h1, h2]
      obtain ⟨i, t, e1, e2⟩ := h.v
      obtain ⟨_, b, v⟩ := x
      simp only at e1
      subst e1
      exact ⟨b, i, t, rfl, e2⟩
    · have h1 : decide (nk p.1 = some k) = false := decide_eq_false (by rw [h.k]; intro z; exact hk (Option.some.inj z))
      have h2 : decide (x.1 = k) = false := decide_eq_false hk
      rw [h1, h2]
      exact ih
theorem XR.put {xs : List (NestedKey × Addr × Value)} {kds : List (D × D)} (r : XR M F H xs kds) {d : D} {k : NestedKey} (e : nk d = some k) (hd : k.depth ≤ 8) {b : Addr} (rd : Rep M F H (.ref b) d) (i : Int) (t : Tok) : XR M F H (storedH xs k b (.int i t)) (dput kds d (.int i)) := by
  have ea : (atKey xs k).isSome = kds.any fun p => decide (nk p.1 = nk d) := by
    rw [e]
    induction r with
    | nil => rfl
    | @cons x p xs kds h t ih =>
      unfold atKey at ih ⊢
      rw [List.find?_cons, List.any_cons, ← ih]
      by_cases hk : x.1 = k
      · have h1 : decide (nk p.1 = some k) = true := decide_eq_true (by rw [h.k, hk])
        have h2 : decide (x.1 = k) = true := decide_eq_true hk
        rw [h1, h2]; rfl
      · have h1 : decide (nk p.1 = some k) = false := decide_eq_false (by rw [h.k]; intro z; exact hk (Option.some.inj z))
        have h2 : decide (x.1 = k) = false := decide_eq_false hk
        rw [h1, h2]; rfl
  unfold storedH dput
  rw [ea]
  split
  · rename_i hc
    clear ea hc
    rw [e]
    induction r with
    | nil => exact .nil
    | @cons x p xs kds h t' ih =>
      rw [List.map_cons, List.map_cons]
      refine .cons ?_ ih
      unfold putAt
      by_cases hk : x.1 = k
      · have h1 : nk p.1 = some k := by rw [h.k, hk]
        rw [if_pos hk, if_pos h1]
        exact ⟨h.k, h.dp, h.rp, i, t, rfl, rfl⟩
      · have h1 : ¬ nk p.1 = some k := by rw [h.k]; intro z; exact hk (Option.some.inj z)
        rw [if_neg hk, if_neg h1]
        exact h
  · rename_i hc
    clear ea hc
    induction r with
    | nil => exact .cons ⟨e, hd, rd, i, t, rfl, rfl⟩ .nil
    | @cons x p xs kds h t' ih => exact .cons h ih
end
end CL

set_option maxHeartbeats 1000000
namespace CL
open PySem PySem.Spec PyProof.Rows L2
section
variable {X : Cx} {M : Md} {W : WX} {O : List Nat} {F : Addr → Prop} {H : Hp} {pins : List (Addr × Obj)} {σ : L2.St} {s : Shared}
theorem dct_at (I : L2.Inv X pins σ H s) (hw : M.hk = fun k => k.hash X.w) {p : Addr} {es : Array DictEntry} {ep : Nat} {kds : List (D × D)} (h : H p = some (DctO p es ep)) (r : RepEs M F H es.toList kds) :
    (p == sysModules) = false ∧ s.heap.DictRaw p es ep ∧ ∃ xs, s.heap.DictOfH (nestedKind X.prog X.w) p xs ∧ es.toList = xs.map (entryOfKey (nestedKind X.prog X.w)) ∧ XR M F H xs kds := by
  obtain ⟨⟨raw, hs⟩, _⟩ := (show ObjOk X.prog X.w H s.heap p (DctO p es ep) from I.hok p _ h)
  obtain ⟨xs, e, xr, nd⟩ := RepEs.out (P := X.prog) hw r
  obtain ⟨o, ho, hx, hd⟩ := id raw
  refine ⟨hs, raw, xs, ⟨o, es, ep, ho, hx, hd, e, fun x hx => ?_, nd⟩, e, xr⟩
  obtain ⟨q, _, z⟩ := xr.mem x hx
  exact ⟨Rep.key I.hok z.rp z.k rfl, z.dp⟩
theorem dct_new {P : Program} {w : World} {h : Heap} {p : Addr} {es : Array DictEntry} {ep : Nat} (r : h.DictRaw p es ep) (hs : (p == sysModules) = false) : ObjOk P w H h p (DctO p es ep) :=
  ⟨⟨r, hs⟩, let ⟨o, ho, _⟩ := r; ⟨o, ho⟩, fun h1 h2 q k => ⟨q.1.at k, q.2⟩⟩
theorem room_in (hu : X.A.units + 64 < cLine) : (nestedKind X.prog X.w).room X.A.in1 := by
  show X.A.units + 1 + 8 < cLine
  omega
def D.ixD : D → D → R D
  | .dct kds, .tup l => if okKey (.tup l) then (match dget kds (.tup l) with | some v => .ok v | none => .bad) else .bad
  | _, _ => .bad
theorem od_ixD (hu : X.A.units + 64 < cLine) (hw : M.hk = fun k => k.hash X.w) : IxR X (rD M D.ixD) := by
  intro value slice pins s σ H x y v u Q I rx ry ⟨F, a, b, dm, ra, rb, w⟩ hs
  unfold D.ixD at w
  split at w
  · rename_i kds l
    obtain ⟨p, es, ep, rfl, h1, r1⟩ := ra
    split at w
    · rename_i ok
      obtain ⟨k, e, hd⟩ := okKey_ex ok
      obtain ⟨hsm, raw, xs, dh, _, xr⟩ := dct_at I hw h1 r1
      have at_ := at_dget xr e
      split at w
      · rename_i v0 hv
        rw [hv] at at_
        obtain ⟨b, i, t, e1, rfl⟩ := at_
        cases (show Rep M F H y _ from rb) with
        | tup h2 h3 =>
          obtain rfl : v = Value.ref p := rx
          obtain rfl : u = Value.ref _ := ry
          exact tail_any dh.typeIs slot_dict_getitem.lookup (wpAny_getItem_heap (room_in hu) ⟨Rep.key I.hok (.tup h2 h3) e rfl, hd⟩ dh e1 ⟨.int i, H, I.tok _, ⟨t, rfl⟩, w _ H F (Grow.refl dm) (.int i)⟩) hs
      · exact w.elim
    · exact w.elim
  · exact w.elim
/-- d.get(k), d.get(k, x) -/
def D.getG : D → List D → R D
  | .dct kds, [.tup l] => if okKey (.tup l) then .ok ((dget kds (.tup l)).getD .non) else .bad
  | .dct kds, [.tup l, .int j] => if okKey (.tup l) then .ok ((dget kds (.tup l)).getD (.int j)) else .bad
  | _, _ => .bad
def methD (k : D → List D → R D) (f : DEnv → R D) (fs : DEnv → R (List D)) : DEnv → R D := fun δ => (f δ).bind fun a => match a with
  | .dct l => (fs δ).bind fun ds => (match k (.dct l) ds with | .ok d => .ok d | _ => .bad)
  | _ => .bad
theorem md_get (hu : X.A.units + 64 < cLine) (hw : M.hk = fun k => k.hash X.w) {H : Hp} {pins : List (Addr × Obj)} {σ : L2.St} {s : Shared} {p : Addr} {es : Array DictEntry} {ep : Nat} {kds : List (D × D)} {vs : List V} {us : List Value} {ds : List D} {Q : VK} {F : Addr → Prop} (I : L2.Inv X pins σ H s) (dm : Dom F H)
    (h : H p = some (DctO p es ep)) (r : RepEs M F H es.toList kds) (rv : Vals vs us) (rs : All2 (RepB M F H) vs ds) (w : (D.getG (.dct kds) ds).wp (fun d => ∀ v H' F', Grow F H F' H' → Rep M F' H' v d → Q v H') (fun _ => False)) :
    wpAny (model X.prog X.w) X.A (call (.builtin "dict.get") (.ref p :: us)) (EP X pins σ Q) X.xe s := by
  obtain ⟨hsm, raw, xs, dh, _, xr⟩ := dct_at I hw h r
  unfold D.getG at w
  split at w
  · rename_i kds' l heq
    cases heq
    split at w
    · rename_i ok
      obtain ⟨k, e, hd⟩ := okKey_ex ok
      obtain ⟨v, rfl, r1⟩ := all2_one rs
      cases (show Rep M F H v _ from r1) with
      | tup h2 h3 =>
        obtain ⟨u, rfl, ru⟩ := vals1 rv
        obtain rfl : u = Value.ref _ := ru
        have at_ := at_dget xr e
        refine get_keyed (knd := nestedKind X.prog X.w) (room_in hu) ⟨Rep.key I.hok (.tup h2 h3) e rfl, hd⟩ hsm ⟨xs, dh, rfl⟩ ?_
        rw [valueAt_pairsH]
        cases hg : dget kds (.tup l) with
        | some v0 =>
          rw [hg] at at_ w
          obtain ⟨b, i, t, e1, rfl⟩ := at_
          rw [e1]
          exact ⟨.int i, H, I.tok _, ⟨t, rfl⟩, w _ H F (Grow.refl dm) (.int i)⟩
        | none =>
          rw [hg] at at_ w
          rw [at_]
          exact ⟨.non, H, I.tok _, rfl, w _ H F (Grow.refl dm) .non⟩
    · exact w.elim
  · rename_i kds' l j heq
    cases heq
    split at w
    · rename_i ok
      obtain ⟨k, e, hd⟩ := okKey_ex ok
      cases rs with
      | cons r1 rs2 => cases rs2 with
        | cons r2 rs3 =>
          cases rs3
          cases (show Rep M F H _ _ from r1) with
          | tup h2 h3 =>
            cases (show Rep M F H _ _ from r2) with
            | int =>
              cases rv with
              | cons ru rv2 => cases rv2 with
                | cons rj rv3 =>
                  cases rv3
                  obtain rfl := ru
                  obtain ⟨tj, rfl⟩ := rj
                  have at_ := at_dget xr e
                  refine getOr_keyed (knd := nestedKind X.prog X.w) (room_in hu) ⟨Rep.key I.hok (.tup h2 h3) e rfl, hd⟩ hsm ⟨xs, dh, rfl⟩ ?_
                  rw [valueAt_pairsH]
                  cases hg : dget kds (.tup l) with
                  | some v0 =>
                    rw [hg] at at_ w
                    obtain ⟨b, i, t, e1, rfl⟩ := at_
                    rw [e1]
                    exact ⟨.int i, H, I.tok _, ⟨t, rfl⟩, w _ H F (Grow.refl dm) (.int i)⟩
                  | none =>
                    rw [hg] at at_ w
                    rw [at_]
                    exact ⟨.int j, H, I.tok _, ⟨tj, rfl⟩, w _ H F (Grow.refl dm) (.int j)⟩
    · exact w.elim
  · exact w.elim
variable {o e : Expr} {es : List Expr} {f : DEnv → R D} {fs : DEnv → R (List D)} {pos : Pos}
theorem sd_get {ap : Pos} (hu : X.A.units + 64 < cLine) (hw : M.hk = fun k => k.hash X.w) (ho : PE X o (tB M W O f)) (ha : PA X (e :: es) (tA M W O (RepB M) fs))
    (hbase : attributeBase o "get" X.env (eval o X.env) = eval o X.env := by rfl)
    (hfew : ((backTo pos (starEach (e :: es) X.env)).all (fun x => !x.1) && (backToKw pos (keywordEach [] X.env)).all (fun x => x.1.isSome) && decide ((e :: es).length + ([] : List Keyword).length + (if ([] : List Keyword).isEmpty then 0 else 1) < 30)) = true := by rfl)
    (hline : (ap.endLine == pos.line) = true := by rfl) (hs : starEach (e :: es) X.env = (false, eval e X.env) :: starEach es X.env := by rfl) (hplain : (backTo pos (starEach es X.env)).any (·.1) = false := by rfl) :
    PE X (.Call (.Attribute o "get" ap) (e :: es) [] pos) (tD M W O (methD D.getG f fs)) := by
  refine ⟨fun pins s σ H Q I ⟨δ, F, E, w⟩ => ?_⟩
  refine wpAny_Call_method_late hbase hfew hline rfl (thn (ho.run pins s σ H (fun x H1 => ∃ a F1, Grow F H F1 H1 ∧ RepB M F1 H1 x a ∧ R.wp (match a with
    | .dct l => (fs δ).bind fun ds => (match D.getG (.dct l) ds with | .ok d => R.ok d | _ => .bad)
    | _ => .bad) (fun d => ∀ v H' F', Grow F H F' H' → Rep M F' H' v d → Q v H') (fun n => ∀ H' F', Grow F H F' H' → W (.ref (M.xc n)) none σ H')) I (tE.one E w fun a x H1 F1 ea g1 ra w1 => ⟨a, F1, g1, ra, w1⟩)) fun v s1 ⟨x, H1, I1, r1, a, F1, g1, ra, w1⟩ => ?_)
  cases a with
  | dct kds =>
    obtain ⟨p, es', ep, rfl, h1, re⟩ := ra
    obtain rfl : v = Value.ref p := r1
    obtain ⟨hsm, raw, xs, dh, _, _⟩ := dct_at I1 hw h1 re
    refine ⟨"dict", "dict.get", PySem.F.plainAttrs_dict, PySem.F.slot_dict_get, PySem.F.type_dict_get, dh.typeIs, (fun b q => by cases q; obtain ⟨ob, q1, q2, _⟩ := raw; exact ⟨ob, q1, q2.2.1⟩), ?_⟩
    have hA := ha.run pos pins s1 σ H1 (fun vs H2 => ∃ ds F2, Grow F1 H1 F2 H2 ∧ All2 (RepB M F2 H2) vs ds ∧ R.wp (match D.getG (.dct kds) ds with | .ok d => R.ok d | _ => .bad) (fun d => ∀ v H' F', Grow F H F' H' → Rep M F' H' v d → Q v H') (fun n => ∀ H' F', Grow F H F' H' → W (.ref (M.xc n)) none σ H')) I1
      ⟨δ, F1, E.grow g1, R.wp_mono (R.wp_bind w1) (fun ds _ w2 vs H2 F2 g2 rs => ⟨ds, F2, g2, rs, w2⟩) fun n q H2 F2 g2 => q H2 F2 (g1.trans g2)⟩
    rw [hs] at hA ⊢
    refine Calls.callWith_builtin (by show (false || (backTo pos (starEach es X.env)).any (·.1)) = false; rw [hplain] <;> rfl) (Calls.evalArgs_plain ?_)
    refine thn hA fun us s2 ⟨vs, H2, I2, r2, ds, F2, g2, rs, w2⟩ => ?_
    refine md_get hu hw I2 g2.dom (g2.1 p _ h1) (re.grow g2) r2 rs ?_
    cases eo : D.getG (.dct kds) ds with
    | ok d => rw [eo] at w2; exact fun v H' F' g3 r => w2 v H' F' ((g1.trans g2).trans g3) r
    | exc n => rw [eo] at w2; exact w2.elim
    | bad => rw [eo] at w2; exact w2.elim
  | _ => exact w1.elim
end
end CL

set_option maxHeartbeats 1000000
namespace CL
open PySem PySem.Spec PyProof.Rows L2
section
variable {X : Cx} {M : Md} {W : WX} {H0 : Hp} {F0 : Addr → Prop} {O O1 O' Ol : List Nat} {pos : Pos} {e : Expr} {f g : DEnv → R D}
/-! ### d[k] = v -/
theorem set_dct (hu : X.A.units + 64 < cLine) (hw : M.hk = fun k => k.hash X.w) : PSet X (fun o i v H Q => ∃ (F : Addr → Prop) (p : Addr) (es : Array DictEntry) (ep : Nat) (kds : List (D × D)) (b : Addr) (l : List D) (z : Int),
    o = .ref p ∧ i = .ref b ∧ v = .int z ∧ H p = some (DctO p es ep) ∧ RepEs M F H es.toList kds ∧ Rep M F H (.ref b) (.tup l) ∧ okKey (.tup l) = true ∧ kds.length ≤ lim ∧
    ∀ es' ep', RepEs M F H es'.toList (dput kds (.tup l) (.int z)) → Q (upd H p (DctO p es' ep'))) := by
  intro pins s σ H o i v ov iv u Q I ro ri rv h
  obtain ⟨F, p, es, ep, kds, b, l, z, rfl, rfl, rfl, h1, re, rk, ok, hl, q⟩ := h
  obtain ⟨k, ek, hd⟩ := okKey_ex ok
  obtain ⟨hsm, raw, xs, dh, _, xr⟩ := dct_at I hw h1 re
  obtain rfl : ov = Value.ref p := ro
  obtain rfl : iv = Value.ref b := ri
  obtain ⟨t, rfl⟩ := rv
  have hsz : xs.length ≤ sizeLine := by rw [Paired.length xr, lim_eq]; exact hl
  refine wpAny_setItem_heap (room_in hu) ⟨Rep.key I.hok rk ek rfl, hd⟩ dh (fun h' dh' sb => ?_) hsz
  obtain ⟨o', es', ep', ho', hx', hd', he', _, nd'⟩ := dh'
  have raw' : h'.DictRaw p es' ep' := ⟨o', ho', hx', hd'⟩
  refine ⟨upd H p (DctO p es' ep'), I.write (x := p) (e := p) (t' := _) (by rw [h1]; trivial) (.inl rfl) (fun b u hb hu => (sb.2 b hb).trans hu) ⟨o', ho'⟩ (dct_new raw' hsm), q es' ep' ?_⟩
  rw [he']
  exact RepEs.mk hw (xr.put ek hd rk z t) nd'
def itemD (i : Nat) (f g : DEnv → R D) : DEnv → Out := fun δ => match δ[i]? with
  | some (some (.dct l)) => inS δ (f δ) fun d => inS δ (g δ) fun k => (match d, k with
    | .int z, .tup kl => if okKey (.tup kl) = true ∧ l.length ≤ lim then .nxt (δ.set i (some (.dct (dput l (.tup kl) (.int z))))) else .bad
    | _, _ => .bad)
  | _ => .bad
theorem ss_itemD (i : Nat) {x : Str} {ix : Expr} {p1 p2 : Pos} (hu : X.A.units + 64 < cLine) (hwk : M.hk = fun k => k.hash X.w) (h : PE X e (tD M W O f)) (hix : PE X ix (tD M W O g)) (hO : O.contains i = true := by rfl) (hN : X.N[i]? = some x := by rfl) (hv : Vis X.env.scope x := by first | exact Or.inl rfl | exact Or.inr (Or.inl rfl) | exact Or.inr (Or.inr rfl)) (hd : (x == ("__debug__" : Str)) = false := by decide) (hcd : (x == ("__classdict__" : Str)) = false := by decide)
    (ha : ∀ v, assign (.Subscript (.Name x p1) ix p2) X.env v = (do
      let ov ← holding [v] (eval (.Name x p1) X.env)
      let iv ← holding [v, ov] (eval ix X.env)
      standAt p2
      holding [v, ov, iv] (setItem ov iv v)
      release [v, ov, iv] []) := by intro _; rfl)
    (hs : swapsWithSole [.Subscript (.Name x p1) ix p2] e pos.line X.env = pure false := by rfl) (hw : swappedStores [.Subscript (.Name x p1) ix p2] e X.env = pure none := by rfl) (h1 : (assignEach [.Subscript (.Name x p1) ix p2] X.env).map (·.2) = [assign (.Subscript (.Name x p1) ix p2) X.env] := by rfl) :
    PS X (.Assign [.Subscript (.Name x p1) ix p2] e pos) (tS M W H0 F0 O O Ol (itemD i f g)) := ps_imp (ps_asg h (pg_sub (pe_var (i := i) hN hv hd hcd) hix (set_dct hu hwk) ha) hs hw h1) fun E σ H ⟨δ, F, I, w⟩ => by
  have hO : i ∈ O := by simpa using hO
  unfold itemD at w
  split at w
  · rename_i l e1
    refine tE.inS I w fun d v H' F' _ g r w' => ?_
    have I1 := I.grow g
    obtain ⟨p, e2, nf, es, ep, h1, r1⟩ := I1.e.own i _ hO e1
    refine ⟨_, e2, ?_⟩
    refine tE.inS I1 w' fun k kv H2 F2 _ g2 rk w2 => ?_
    cases d with
    | int z =>
      cases k with
      | tup kl =>
        simp only at w2
        split at w2
        · rename_i hok
          cases r
          cases rk with
          | tup q1 q2 =>
            refine ⟨F2, p, es, ep, l, _, kl, z, rfl, rfl, rfl, g2.1 p _ h1, r1.grow g2, .tup q1 q2, hok.1, hok.2, fun es' ep' re => ?_⟩
            exact w2 _ _ F2 ((I1.grow g2).mutD hO e1 e2 re)
        · exact w2.elim
      | _ => exact w2.elim
    | _ => exact w2.elim
  · exact w.elim
/-! ### {k: v} -/
def dispV (fk fv : DEnv → R D) : DEnv → R D := fun δ => (fk δ).bind fun k => (fv δ).bind fun v => match k, v with
  | .tup l, .int z => if okKey (.tup l) then .ok (.dct [(.tup l, .int z)]) else .bad
  | _, _ => .bad
theorem sd_disp {k v : Expr} (hu : X.A.units + 64 < cLine) (hw : M.hk = fun k => k.hash X.w) (hk : PE X k (tD M W O f)) (hv : PE X v (tD M W O g)) : PE X (.Dict [some k] [v] pos) (tD M W O (dispV f g)) := by
  refine ⟨fun pins s σ H Q I ⟨δ, F, E, w⟩ => ?_⟩
  have hn := pairTrees_length [some k] [v] X.env pos rfl rfl
  have hp0 : pairTrees [some k] [v] X.env pos ≠ [] := by
    intro he
    rw [he] at hn
    cases hn
  rw [arm_eval_Dict, zip_pairTrees [some k] [v] X.env pos rfl rfl, dictDisplay_pairs _ hp0 (by rw [hn]; simp)]
  have hfr := I.hok.fresh (Nat.le_refl s.heap.objs.size)
  have hsm : (s.heap.objs.size == sysModules) = false := by
    have := I.big
    exact beq_eq_false_iff_ne.2 (by intro z; rw [z] at this; exact Nat.lt_irrefl _ this)
  have raw0 : (s.heap.push { cls := .type "dict", data := .dict #[] }).DictRaw s.heap.objs.size #[] 0 := ⟨_, Heap.get?_push_size _ rfl, ⟨rfl, rfl, rfl⟩, rfl⟩
  have I1 := I.laid (a := s.heap.objs.size) (o := DctO s.heap.objs.size #[] 0) (h' := s.heap.push { cls := .type "dict", data := .dict #[] }) (t' := s.toks) (fun _ _ q => Heap.get?_push_of_some _ q) (Nat.le_refl _) (dct_new raw0 hsm)
  have g0 : Grow F H F (upd H s.heap.objs.size (DctO s.heap.objs.size #[] 0)) := Grow.newT E.dom hfr
  have nF0 : ¬ F s.heap.objs.size := fun z => by obtain ⟨o, e⟩ := E.dom _ z; rw [hfr] at e; cases e
  refine wpAny_bind (wpAny_standAt (wpAny_bind (wpAny_subDictH (knd := nestedKind X.prog X.w) (Q := fun d s' => wpAny (model X.prog X.w) X.A (pure (Value.ref d)) (EP X pins σ Q) X.xe s') (by show X.A.units + 8 < cLine; omega) (by rw [hn]; simp)
    (thn ((pps_cons hk hv pps_nil).run pins _ σ _ (fun ps H2 => ∃ x y l z F2, ps = [(x, y)] ∧ Grow F (upd H s.heap.objs.size (DctO s.heap.objs.size #[] 0)) F2 H2 ∧ Rep M F2 H2 x (.tup l) ∧ Rep M F2 H2 y (.int z) ∧ okKey (.tup l) = true ∧ ∀ v H' F', Grow F H F' H' → Rep M F' H' v (.dct [(.tup l, .int z)]) → Q v H') I1 ?A) fun ws s2 ⟨ps, H2, I2, rel, x, y, l, z, F2, ep, g2, rx, ry, ok, q⟩ => ?B))))
  case A =>
    have E1 := E.grow g0
    show tD M W O f σ _ _
    refine ⟨δ, F, E1, R.wp_mono (R.wp_bind w) (fun a ea w1 x H1 F1 g1 ra => ?_) fun n q H' F' gg => q H' F' (g0.trans gg)⟩
    show tD M W O g σ H1 _
    refine ⟨δ, F1, E1.grow g1, R.wp_mono (R.wp_bind w1) (fun b eb w2 y H2 F2 g2 rb => ?_) fun n q H2 F2 g2 => q H2 F2 ((g0.trans g1).trans g2)⟩
    cases a with
    | tup l =>
      cases b with
      | int z =>
        simp only at w2
        split at w2
        · rename_i ok
          exact ⟨x, y, l, z, F2, rfl, g1.trans g2, ra.grow g2, rb, ok, w2⟩
        · exact w2.elim
      | _ => exact w2.elim
    | _ => exact w2.elim
  case B =>
    subst ep
    obtain ⟨k', ek, hd⟩ := okKey_ex ok
    have hp2 : H2 s.heap.objs.size = some (DctO s.heap.objs.size #[] 0) := g2.1 _ _ upd_same
    cases ry
    cases rx with
    | tup q1 q2 =>
      cases rel with
      | @cons _ wv _ _ h t =>
        cases t
        obtain ⟨wk, wv⟩ := wv
        obtain ⟨hk1, hv1⟩ := h
        obtain rfl := hk1
        obtain ⟨tv, rfl⟩ := hv1
        obtain ⟨⟨⟨o2, ho2, hx2, hd2⟩, _⟩, _⟩ := (show ObjOk X.prog X.w H2 s2.heap s.heap.objs.size (DctO s.heap.objs.size #[] 0) from I2.hok _ _ hp2)
        refine ⟨[(k', _, .int z tv)], ⟨rfl, rfl, ⟨Rep.key I2.hok (.tup q1 q2) ek rfl, hd⟩, trivial⟩, ⟨o2, #[], 0, ho2, hx2, hd2, rfl, fun x hx => by simp at hx, List.nodup_nil⟩, fun h' tk dh' sb => ?_⟩
        obtain ⟨o', es', ep', ho', hx', hd', he', _, nd'⟩ := dh'
        have raw' : h'.DictRaw s.heap.objs.size es' ep' := ⟨o', ho', hx', hd'⟩
        have I3 : L2.Inv X pins σ (upd H2 s.heap.objs.size (DctO s.heap.objs.size es' ep')) { s2 with heap := h', toks := tk } :=
          I2.write (x := s.heap.objs.size) (e := s.heap.objs.size) (t' := tk) (by rw [hp2]; trivial) (.inl rfl) (fun b u hb hu => (sb.2 b hb).trans hu) ⟨o', ho'⟩ (dct_new raw' hsm)
        have nF2 : ¬ F2 s.heap.objs.size := fun z => by
          rcases g2.2.2.1 _ z with q | q
          · exact nF0 q
          · rw [upd_same] at q; cases q
        have re : RepEs M F2 H2 es'.toList [(.tup l, .int z)] := by
          rw [he']
          exact RepEs.mk hw (.cons ⟨ek, hd, .tup q1 q2, z, tv, rfl, rfl⟩ .nil) nd'
        have kk : Keep F2 H2 (upd H2 s.heap.objs.size (DctO s.heap.objs.size es' ep')) := by
          refine ⟨fun a us hF e => ?_, fun a us e => ?_, fun a o u e => ?_⟩
          · have ne : a ≠ s.heap.objs.size := fun z => nF2 (by rw [← z]; exact hF)
            rw [upd_ne ne]; exact e
          · rw [upd_ne (ne_of e hp2 (by intro z; cases z))]; exact e
          · rw [upd_ne (ne_of e hp2 (by intro z; cases z))]; exact e
        refine wpAny_pure ⟨.ref s.heap.objs.size, _, I3, rfl, q (.ref s.heap.objs.size) _ (fun a => F2 a ∨ a = s.heap.objs.size) ?_ (.dct (.inr rfl) upd_same (re.mono kk fun _ z => .inl z))⟩
        have gA := g0.trans g2
        refine ⟨fun a o e => ?_, fun a z => .inl (gA.2.1 a z), fun a z => ?_, fun a z => ?_⟩
        · rw [upd_ne (fun z => by rw [z, hfr] at e; cases e)]; exact gA.1 a o e
        · rcases z with z | z
          · exact gA.2.2.1 a z
          · rw [z]; exact .inr hfr
        · by_cases ha : a = s.heap.objs.size
          · rw [ha]; exact ⟨_, upd_same⟩
          · rcases z with z | z
            · obtain ⟨o, e1⟩ := gA.2.2.2 a z
              exact ⟨o, by rw [upd_ne ha]; exact e1⟩
            · exact absurd z ha
end
end CL

set_option maxHeartbeats 1000000
namespace CL
open PySem PySem.Spec PyProof.Rows L2
/-! ### dict(d), one key -/
section
variable {prog : Program} {w : World} {A : Around} {E : Value → Shared → Prop} {s : Shared}
theorem call_dictH {o : Addr} {x : NestedKey × Addr × Value} {Q : Value → Shared → Prop} (hu : A.units + 64 < cLine) (hoS : (o == sysModules) = false) (ho : s.heap.DictOfH (nestedKind prog w) o [x])
    (h : ∀ h', h'.DictOfH (nestedKind prog w) s.heap.objs.size [x] → Heap.SameBut s.heap.objs.size (s.heap.push { cls := .type "dict", data := .dict #[] }) h' → Q (.ref s.heap.objs.size) { s with heap := h' }) :
    wpAny (model prog w) A (call (.type "dict") [.ref o]) Q E s := by
  refine callType_codes (Q₁ := fun obj s₁ => obj = .ref s.heap.objs.size ∧ s₁ = { s with heap := s.heap.push { cls := .type "dict", data := .dict #[] } }) PySem.F.kt_called_dict (PySem.F.kt_typeCall_dict_1 _) PySem.F.entry_dict_init (kt_code_dict_new _ ⟨rfl, rfl⟩) ?_
  rintro obj s₁ ⟨rfl, rfl⟩
  have hnew : (s.heap.push { cls := .type "dict", data := .dict #[] }).DictOfH (nestedKind prog w) s.heap.objs.size [] := Heap.DictOfH.new s.heap
  obtain ⟨oo, es, ep, hg, hx, hdt, he, his, hn⟩ := id ho
  have ho' : (s.heap.push { cls := .type "dict", data := .dict #[] }).DictOfH (nestedKind prog w) o [x] :=
    ⟨oo, es, ep, Heap.get?_push_of_some _ hg, hx, hdt, he, fun y hy => nestedKind_stays.stays (fun b ob _ _ q _ => Heap.get?_push_of_some _ q) (his y hy), hn⟩
  have hdo : s.heap.objs.size ≠ o := fun e => absurd (Heap.lt_size hg) (by rw [e]; exact Nat.lt_irrefl _)
  have hTy : (Shared.TypeIs { s with heap := s.heap.push { cls := .type "dict", data := .dict #[] } } (.ref x.2.1) "tuple") := nestedKind_stays.tuple (s := { s with heap := s.heap.push { cls := .type "dict", data := .dict #[] } }) (nestedKind_stays.stays (fun b ob _ _ q _ => Heap.get?_push_of_some _ q) (his x (by simp)))
  refine ⟨hnew.typeIs, PySem.F.args_dict_init_2 _ _, ?_⟩
  unfold Builtin.«dict.__init__»
  refine wpAny_bind ?_
  unfold Builtin.Dict.selfAndRest
  refine wpAny_bind (wpAny_notOrdered_dict hnew.typeIs ?_)
  show wpAny _ _ (pure (s.heap.objs.size, [Value.ref o])) _ _ _
  refine wpAny_pure ?_
  show wpAny _ _ (Builtin.Dict.updateFrom "dict.__init__" s.heap.objs.size (.ref o) [] .none) _ _ _
  unfold Builtin.Dict.updateFrom
  refine wpAny_bind (wpAny_typeOf ho'.typeIs ?_)
  rw [if_neg (by decide)]
  refine wpAny_bind ?_
  unfold Builtin.Dict.merge
  refine wpAny_bind ?_
  unfold Builtin.Dict.readDirectly
  refine wpAny_bind (wpAny_isInstance ho'.typeIs isSubtype_dict_dict ?_)
  simp only [Bool.not_true, Bool.false_eq_true, if_false]
  refine wpAny_bind (wpAny_specialOf ho'.typeIs PySem.F.slot_dict_iter.lookup (wpAny_pure ?_))
  simp only [beq_self_eq_true, if_true]
  refine wpAny_bind (wpAny_pure ?_)
  refine wpAny_mergeDict_heap (hsz := by simp [sizeLine_eq]) (by show _ + 8 < cLine; simp; omega) hdo hoS hnew ho' (.inr ⟨fun y hy => by simp at hy; rw [hy]; exact hTy, by simp⟩) fun h' hd' _ hs' => ?_
  show wpAny _ _ (Builtin.Dict.addKeywords s.heap.objs.size [] >>= _) _ _ _
  exact wpAny_bind (wpAny_pure (wpAny_pure ⟨rfl, h h' hd' hs'⟩))
end
section
variable {X : Cx} {M : Md} {W : WX} {O : List Nat} {pos : Pos} {e : Expr} {f : DEnv → R D} {fs : DEnv → R (List D)}
def D.dictC : List D → R D
  | [.dct [p]] => .ok (.dct [p])
  | _ => .bad
theorem cr_dictC (hu : X.A.units + 64 < cLine) (hw : M.hk = fun k => k.hash X.w) : CallR X (.type "dict") (fun vs H Q => ∃ (F : Addr → Prop) (p : Addr) (es : Array DictEntry) (ep : Nat) (kd : D × D), vs = [V.ref p] ∧ H p = some (DctO p es ep) ∧ RepEs M F H es.toList [kd] ∧
    ∀ q es' ep', H q = none → RepEs M F H es'.toList [kd] → Q (.ref q) (upd H q (DctO q es' ep'))) := by
  intro pins s σ H vs us Q I r ⟨F, p, es, ep, kd, ev, h1, re, q⟩
  subst ev
  rw [Vals.ref1 r]
  obtain ⟨hsm, raw, xs, dh, _, xr⟩ := dct_at I hw h1 re
  have hsm2 : (s.heap.objs.size == sysModules) = false := by
    have := I.big
    exact beq_eq_false_iff_ne.2 (by intro z; rw [z] at this; exact Nat.lt_irrefl _ this)
  cases xr with
  | @cons x _ _ _ hx t =>
    cases t
    refine call_dictH hu hsm dh fun h' dh' sb => ?_
    obtain ⟨o', es', ep', ho', hx', hd', he', _, nd'⟩ := dh'
    have raw' : h'.DictRaw s.heap.objs.size es' ep' := ⟨o', ho', hx', hd'⟩
    have kp : ∀ b u, s.heap.get? b = some u → h'.get? b = some u := fun b u e => by
      rw [sb.2 b (Nat.ne_of_lt (Heap.lt_size e))]
      exact Heap.get?_push_of_some _ e
    refine ⟨.ref _, upd H s.heap.objs.size (DctO s.heap.objs.size es' ep'), I.laid (t' := s.toks) kp (Nat.le_refl _) (dct_new raw' hsm2), rfl, q _ es' ep' (I.hok.fresh (Nat.le_refl _)) ?_⟩
    rw [he']
    exact RepEs.mk hw (.cons hx .nil) nd'
theorem sn_dictC {p : Pos} (hu : X.A.units + 64 < cLine) (hw : M.hk = fun k => k.hash X.w) (hm : X.mg "dict" = none) (ha : PA X [e] (tA M W O (RepB M) fs)) (hg : Gl X "dict" := by rfl)
    (hs : starEach [e] X.env = (false, eval e X.env) :: starEach [] X.env := by rfl) (hp : (backTo pos (starEach [] X.env)).any (·.1) = false := by rfl) : PE X (.Call (.Name "dict" p) [e] [] pos) (tN M W O (app D.dictC fs)) :=
  pe_imp (pe_callTy (cr_dictC hu hw) hg hm (by decide +kernel) ha (by decide) (by decide) hs hp) fun σ H Q ⟨δ, F, I, w⟩ => by
    refine ⟨δ, F, I, R.wp_mono (R.wp_bind w) (fun ds _ q vs H1 F1 g1 rs => ?_) fun _ q => q⟩
    unfold D.dictC at q
    split at q
    · rename_i ds' l heq
      split at heq
      · rename_i kd _
        cases heq
        obtain ⟨v, rfl, p, es, ep, rfl, h1, r1⟩ := all2_one rs
        refine ⟨F1, p, es, ep, kd, rfl, h1, r1, fun l es' ep' hl re => ?_⟩
        have g2 := Grow.newT (o := DctO l es' ep') g1.dom hl
        have hH : H l = none := by
          cases z : H l with
          | none => rfl
          | some o => rw [g1.1 l o z] at hl; cases hl
        exact q l _ _ (g1.trans g2) hH (fun z => by obtain ⟨o, e⟩ := g1.dom l z; rw [hl] at e; cases e) ⟨es', ep', upd_same, re.grow g2⟩
      · cases heq
    · exact q.elim
/-! ### list(d.values()) -/
def dvals (f : DEnv → R D) : DEnv → R D := fun δ => (f δ).bind fun d => match d with
  | .dct l => if l.length ≤ lim then .ok (.lst (l.map (·.2))) else .bad
  | _ => .bad
theorem ints_at : ∀ (vs : List Value) (ns : List Int), vs.length = ns.length → (∀ (j : Nat) (v : Value), vs[j]? = some v → ∃ (n : Int) (t : Tok), ns[j]? = some n ∧ v = Value.int n t) → IntsAre vs ns
  | [], [], _, _ => .nil
  | [], _ :: _, h, _ => by simp at h
  | _ :: _, [], h, _ => by simp at h
  | v :: vs, n :: ns, h, f => by
    obtain ⟨n', t, e1, rfl⟩ := f 0 v rfl
    simp at e1
    subst e1
    exact .cons _ t (ints_at vs ns (by simpa using h) fun j u hu => by
      obtain ⟨m, t, q1, q2⟩ := f (j + 1) u (by simpa using hu)
      exact ⟨m, t, by simpa using q1, q2⟩)
theorem RepEs.vals : ∀ {F : Addr → Prop} {H : Hp} {es : List DictEntry} {kds : List (D × D)}, RepEs M F H es kds → ∃ ns : List Int, kds.map (·.2) = ns.map D.int ∧ es.length = ns.length ∧ ∀ (i : Nat) (n : Int), ns[i]? = some n → ∃ (en : DictEntry) (t : Tok), es[i]? = some en ∧ en.val = Value.int n t
  | _, _, _, _, .nil => ⟨[], rfl, rfl, fun i n h => by simp at h⟩
  | _, _, _, _, .cons (i := i) (t := t) e1 e2 e3 r h => by
    obtain ⟨ns, q1, q2, q3⟩ := RepEs.vals h
    refine ⟨i :: ns, by rw [List.map_cons, q1]; rfl, by simp [q2], fun j n hj => ?_⟩
    cases j with
    | zero => simp at hj; subst hj; exact ⟨_, t, rfl, rfl⟩
    | succ j => exact q3 j n (by simpa using hj)
theorem sd_dvals {ap p q : Pos} (hc : X.calm = true) (hw : M.hk = fun k => k.hash X.w) (hm : X.mg "list" = none) (ha : PE X e (tB M W O f)) (hg : Gl X "list" := by rfl)
    (hbase : attributeBase e "values" X.env (eval e X.env) = eval e X.env := by rfl) (hline : (ap.endLine == q.line) = true := by rfl)
    (hs1 : starEach [.Call (.Attribute e "values" ap) [] [] q] X.env = (false, eval (.Call (.Attribute e "values" ap) [] [] q) X.env) :: starEach [] X.env := by rfl) :
    PE X (.Call (.Name "list" p) [.Call (.Attribute e "values" ap) [] [] q] [] pos) (tD M W O (dvals f)) := by
  refine ⟨fun pins s σ H Q I ⟨δ, F, E, w⟩ => ?_⟩
  refine Call_ (ld_blt I hg hm (show bootBuiltins "list" = some (.type "list") by decide +kernel) ?_)
  refine PyProof.Rows.callWith_type1 (PyProof.Rows.args_cons ?_ hs1) hs1 rfl
  have run := ha.run pins s σ H (fun v H1 => ∃ p es ep kds F1, v = .ref p ∧ H1 p = some (DctO p es ep) ∧ RepEs M F1 H1 es.toList kds ∧ kds.length ≤ lim ∧ Grow F H F1 H1 ∧ ∀ v H' F', Grow F H F' H' → Rep M F' H' v (.lst (kds.map (·.2))) → Q v H') I ?_
  · refine wpAny_Call_method (T := "dict") (id := "dict.values") hbase rfl hline PySem.F.plainAttrs_dict PySem.F.slot_dict_values PySem.F.type_dict_values (thn run fun u s1 ⟨x, H1, I1, rx, p, es, ep, kds, F1, ex, h1, re, hl, g1, q1⟩ => ?_)
    subst ex
    obtain rfl : u = Value.ref p := rx
    obtain ⟨hsm, raw, xs, dh, he, xr⟩ := dct_at I1 hw h1 re
    refine ⟨dh.typeIs, (fun b q => by cases q; obtain ⟨ob, q1, q2, _⟩ := raw; exact ⟨ob, q1, q2.2.1⟩), ?_⟩
    obtain ⟨ns, n1, n2, n3⟩ := re.vals
    have hlen : es.size = ns.length := by rw [← Array.length_toList]; exact n2
    have hkl : kds.length = ns.length := by have := congrArg List.length n1; simpa using this
    have I2 : L2.Inv X pins σ H1 { s1 with heap := s1.heap.push { cls := .type "dict_values", data := .fields #[.ref p] } } := I1.kept (t' := s1.toks) fun b ob q => Heap.get?_push_of_some _ q
    show wpAny _ _ (callWith q (.builtin "dict.values") [.ref p] [] []) _ X.xe s1
    refine method_meetsIn PySem.F.slot_dict_values PySem.F.entry_dict_values rfl (PySem.evalArgs_none ⟨rfl, dh.typeIs, PySem.F.args_dict_values_1 _, _, meets_dict_values_raw p hsm, ⟨⟨es, ep, raw⟩, ?_⟩⟩)
    refine PyProof.Rows.args_nil ?_
    refine PySem.W.kdl_call (KdlSrc.rawValues (r := s1.heap.objs.size) (d := p) (es := es) (ep := ep)) (I1.ok.hd hc) ⟨⟨_, Heap.get?_push_size _ rfl, rfl, rfl⟩, raw.push _⟩ (by rw [hlen, ← hkl, lim_eq]; exact hl) fun h' tk acc c hk hS hacc => ?_
    have hn2 := I2.hok.fresh (Nat.le_refl _)
    have hI : IntsAre acc.toList ns := by
      refine ints_at _ _ (by rw [Array.length_toList, hacc.1, hlen]) fun j v hv => ?_
      obtain ⟨hi, ev⟩ := hacc.2 j v (by rw [← Array.getElem?_toList]; exact hv)
      have hj : j < ns.length := by rw [← hlen]; exact hi
      obtain ⟨en, t, e1, e2⟩ := n3 j ns[j] (List.getElem?_eq_getElem hj)
      refine ⟨ns[j], t, List.getElem?_eq_getElem hj, ?_⟩
      have e3 : es[j]? = some en := by rw [← Array.getElem?_toList]; exact e1
      rw [Array.getElem?_eq_getElem hi] at e3
      rw [ev, Option.some.inj e3, e2]
    have J := I2.laid (a := (s1.heap.push { cls := .type "dict_values", data := .fields #[.ref p] }).objs.size) (o := .lst (ns.map V.int)) (t' := tk) hk (Nat.le_refl _) ⟨by rw [List.length_map, ← hkl, lim_eq]; exact hl, acc.toList, c, vals_of_ints hI, by rw [Array.toArray_toList]; exact hS⟩
    have g2 := Grow.newL (o := .lst (ns.map V.int)) g1.dom hn2
    refine ⟨.ref _, _, J, rfl, q1 _ _ _ (g1.trans g2) ?_⟩
    rw [n1]
    exact .lst (.inr rfl) upd_same RepAll.of_ints
  · refine tE.one E w fun d v H1 F1 ed g1 r w1 => ?_
    cases d with
    | dct l =>
      obtain ⟨p, es, ep, rfl, h1, re⟩ := r
      simp only at w1
      split at w1
      · rename_i hl
        exact ⟨p, es, ep, l, F1, rfl, h1, re, hl, g1, w1⟩
      · exact w1.elim
    | _ => exact w1.elim
end
end CL

set_option maxHeartbeats 1000000
namespace CL
open PySem PySem.Spec PyProof.Rows L2
/-! ### walks of a dict that its holder still changes, in a comprehension -/
def AllK (H H' : Hp) : Prop := ∀ a o, H a = some o → H' a = some o
structure DWalkG (M : Md) (J : It) (F : Addr → Prop) (H : Hp) (ds : List D) : Prop where
  go : ∀ i H', i < ds.length → AllK H H' → J.go i H'
  stop : ∀ H', AllK H H' → J.stop ds.length H'
  yld : ∀ i H' x H'', i < ds.length → AllK H H' → J.yld i H' x H'' → ∃ d, ds[i]? = some d ∧ (H'' = H' ∨ ∃ T xs, H' T = none ∧ H'' = upd H' T (.tup xs)) ∧ Rep M F H'' x d
def tIG (M : Md) (W : WX) (O : List Nat) (f : DEnv → R (List D)) : TI := fun σ H K => ∃ δ F, EInv M O F H σ δ ∧
  (f δ).wp (fun ds => ∀ J H' F', Grow F H F' H' → DWalkG M J F' H' ds → K J H') (fun n => ∀ H' F', Grow F H F' H' → W (.ref (M.xc n)) none σ H')
def Itx (d : Addr) (es : Array DictEntry) (ep : Nat) : It :=
  ⟨fun i H => H d = some (DctO d es ep) ∧ ∃ en q, es[i]? = some en ∧ en.key = Value.ref q, fun i H x H' => H' = H ∧ ∃ en q, es[i]? = some en ∧ en.key = Value.ref q ∧ x = .ref q, fun i H => H d = some (DctO d es ep) ∧ es.size ≤ i⟩
theorem turn_dct {P : Program} {w : World} {K : PySem.W.Frag} {tg : Expr} {d : Addr} {es : Array DictEntry} {ep : Nat} (it : Addr) : Turn P w K tg (Itx d es ep) [it] it (fun i h => h.IsKeyIter it d i es.size ep) where
  mem := by simp
  obj := fun i h st b hb => by
    have e : b = it := by simpa using hb
    subst e
    obtain ⟨oi, e, c, dd⟩ := st
    exact ⟨oi, e, fun v z => by rw [dd] at z; cases z⟩
  keep := fun i h h' st k => st.at fun oi e => k it (by simp) oi e
  item := by
    intro X hP hw hK hc i pins s σ H E I hf st hg
    subst hP hw hK
    obtain ⟨hd, en, q, hen, hkey⟩ := hg
    obtain ⟨f0, f1, f2, f3, f4, f5⟩ := hf it (by simp)
    obtain ⟨⟨⟨o, hgd, hx, hdt⟩, hs⟩, _⟩ := (show ObjOk X.prog X.w H s.heap d (DctO d es ep) from I.hok d _ hd)
    refine next_key_item st hgd hdt rfl hen fun h' st' sb => ?_
    have I1 : L2.Inv X pins σ H { s with heap := h' } := I.turned (t' := s.toks) (fun b ob hb e => (sb.2 b hb).trans e) f0 f1 f3 f4 f5
    obtain ⟨oi, e, c, dd⟩ := id st'
    exact ⟨en.key, rfl, go_of (s := { s with heap := h' }) e c dd (by decide) ⟨.ref q, H, I1, hkey, ⟨rfl, en, q, hen, hkey, rfl⟩, st', fun b hb => (hf b hb).1⟩⟩
  done := by
    intro X hP hw hK hc i pins s σ H E I hf st hg
    subst hP hw hK
    obtain ⟨hd, hi⟩ := hg
    obtain ⟨f0, f1, f2, f3, f4, f5⟩ := hf it (by simp)
    obtain ⟨⟨⟨o, hgd, hx, hdt⟩, hs⟩, _⟩ := (show ObjOk X.prog X.w H s.heap d (DctO d es ep) from I.hok d _ hd)
    exact next_key_end (I.ok.hd hc) st hgd hdt rfl hi fun h' eb => ⟨rfl, I.turned (t' := s.toks) (fun b ob hb e => eb b ob hb e) f0 f1 f3 f4 f5⟩
  self := fun A i s Q E st h => by
    refine wpAny_pyIter_slot st.typeIs PySem.F.slot_dict_keyiterator_iter (wpAny_call_entry PySem.F.slot_dict_keyiterator_iter st.typeIs PySem.F.entry_dict_keyiterator_iter ?_ (PySem.F.args_dict_keyiterator_iter_1 _))
    show wpAny _ _ (ret (.ref it)) _ _ s
    exact wpAny_pure ⟨_, rfl, "dict_keyiterator", _, st.typeIs, PySem.F.slot_dict_keyiterator_next.lookup, h⟩
section
variable {X : Cx} {M : Md} {W : WX} {H0 : Hp} {F0 : Addr → Prop} {O O1 O' Ol : List Nat} {tg e : Expr} {f : DEnv → R D} {pos : Pos}
theorem pi_dct {td : TE} (he : PE X e td) : PI X tg e (fun σ H K => td σ H fun x H1 => ∃ d es ep, x = .ref d ∧ H1 d = some (DctO d es ep) ∧ K (Itx d es ep) H1) := by
  refine ⟨fun pins s σ H R I h => ?_⟩
  refine thn (he.run pins s σ H _ I h) fun u s1 ⟨x, H1, I1, rx, d, es, ep, ex, hd, q⟩ => ?_
  subst ex
  obtain rfl : u = Value.ref d := rx
  obtain ⟨⟨⟨o, hgd, hx, hdt⟩, hs⟩, _⟩ := (show ObjOk X.prog X.w H1 s1.heap d (DctO d es ep) from I1.hok d _ hd)
  exact iter_keys hs hgd hx hdt (pi_one (tk := s1.toks) I1 _ (turn_dct _) ⟨_, Heap.get?_push_size _ rfl, rfl, rfl⟩ q)
def dctOf (f : DEnv → R D) : DEnv → R (List D) := fun δ => (f δ).bind fun d => match d with | .dct l => .ok (l.map (·.1)) | _ => .bad
theorem RepEs.keys : ∀ {F : Addr → Prop} {H : Hp} {es : List DictEntry} {kds : List (D × D)}, RepEs M F H es kds → es.length = kds.length ∧ ∀ (i : Nat) (en : DictEntry), es[i]? = some en → ∃ b p, en.key = Value.ref b ∧ kds[i]? = some p ∧ Rep M F H (.ref b) p.1
  | _, _, _, _, .nil => ⟨rfl, fun i n h => by simp at h⟩
  | _, _, _, _, .cons (b := b) e1 e2 e3 r h => by
    obtain ⟨q2, q3⟩ := RepEs.keys h
    refine ⟨by simp [q2], fun j n hj => ?_⟩
    cases j with
    | zero => simp at hj; subst hj; exact ⟨b, _, rfl, rfl, r⟩
    | succ j => exact q3 j n (by simpa using hj)
theorem keep_of_all {F : Addr → Prop} {H H' : Hp} (k : AllK H H') : Keep F H H' := ⟨fun a o _ e => k a o e, fun a xs e => k a _ e, fun a o u e => k a _ e⟩
theorem si_dct (he : PE X e (tB M W O f)) : PI X tg e (tIG M W O (dctOf f)) := by
  refine pi_imp (pi_dct he) fun σ H K ⟨δ, F, E, w⟩ => ?_
  refine tE.one E w fun d v H1 F1 ed g1 r w1 => ?_
  cases d with
  | dct l =>
    obtain ⟨p, es, ep, rfl, h1, re⟩ := r
    obtain ⟨k1, k2⟩ := re.keys
    have hsz : es.size = l.length := by rw [← Array.length_toList]; exact k1
    refine ⟨p, es, ep, rfl, h1, w1 _ H1 F1 g1 ⟨fun i H' hi k => ?_, fun H' k => ⟨k p _ h1, by rw [List.length_map, hsz]; exact Nat.le_refl _⟩, fun i H' x H'' hi k y => ?_⟩⟩
    · rw [List.length_map] at hi
      have hi' : i < es.size := by rw [hsz]; exact hi
      obtain ⟨b, q, e1, e2, e3⟩ := k2 i es[i] (by rw [Array.getElem?_toList]; exact Array.getElem?_eq_getElem hi')
      exact ⟨k p _ h1, es[i], b, Array.getElem?_eq_getElem hi', e1⟩
    · obtain ⟨rfl, en, q, hen, hk, rfl⟩ := y
      obtain ⟨b, pd, e1, e2, e3⟩ := k2 i en (by rw [Array.getElem?_toList]; exact hen)
      rw [hk] at e1
      cases e1
      exact ⟨pd.1, by rw [List.getElem?_map, e2]; rfl, .inl rfl, e3.mono (keep_of_all k) fun _ z => z⟩
  | _ => exact w1.elim
theorem tLc_ofG {vs : List Nat} {fi : DEnv → R (List D)} {gi : D → DEnv → R DEnv} {ft : DEnv → R Bool} {fe : DEnv → R D} {σ : L2.St} {H : Hp} {Q : VK} (h : tD M W O (lcV vs fi gi ft fe) σ H Q) : tLc (tIG M W O fi) (tGt M O vs gi) (tT M W0 O ft) (tD M W0 O fe) vs σ H Q := by
  obtain ⟨δ, F, I, w⟩ := h
  refine ⟨δ, F, I, R.wp_mono (R.wp_bind w) (fun ds eds w1 J H1 F1 g1 dw => ?_) fun _ q => q⟩
  intro A hA
  by_cases hl : ds.length ≤ lim
  · rw [if_pos hl] at w1
    cases el : (lcLoop (wipeD δ vs) gi ft fe ds).tot with
    | exc n => rw [el] at w1; unfold R.tot at el; split at el <;> cases el
    | bad => rw [el] at w1; exact w1.elim
    | ok tot =>
      rw [el] at w1
      have el := R.tot_ok el
      have A1 : Grow F1 H1 F1 (upd H1 A (.lst [])) := Grow.newT g1.dom hA
      have nA : ¬ F1 A := fun z => by obtain ⟨o, e⟩ := g1.dom A z; rw [hA] at e; cases e
      -- by the turn
      let Pv : Nat → Hp → Prop := fun i H' => ∃ rest, lcLoop (wipeD δ vs) gi ft fe (ds.drop i) = .ok rest ∧ ∃ F' acc accd, Grow F1 H1 F' H' ∧ ¬ F' A ∧ H' A = some (.lst acc) ∧ RepAll M F' H' acc accd ∧ accd ++ rest = tot ∧ accd.length ≤ i
      have wk : Walk J ds.length (fun H' => AllK H1 H') (fun i H' x H'' => AllK H1 H' ∧ J.yld i H' x H'') := ⟨fun i H' hi k => dw.go i H' hi k, fun H' k => dw.stop H' k, fun i H' x H'' hi k y => ⟨k, y⟩⟩
      refine lc_it wk Pv ⟨tot, by simpa using el, F1, [], [], A1, nA, upd_same, .nil, rfl, Nat.le_refl _⟩ (fun i H' hi p => ?_) (fun i x H' H'' hi p y => ?_) (fun H' p => ?_)
      · obtain ⟨_, _, F', _, _, gg, _⟩ := p
        exact gg.1
      · obtain ⟨rest, er, F', acc, accd, gg, nF, hAacc, ra, ea, la⟩ := p
        obtain ⟨k, y⟩ := y
        obtain ⟨d, ed, hH, rx⟩ := dw.yld i H' x H'' hi k y
        -- the heap behind the iterator
        have g2 : Grow F' H' F' H'' := by
          rcases hH with e | ⟨T, xs, hT, e⟩
          · rw [e]; exact Grow.refl gg.dom
          · rw [e]; exact Grow.newT gg.dom hT
        have gg2 := gg.trans g2
        have rx' : Rep M F' H'' x d := rx.mono ⟨fun _ _ _ e => e, fun _ _ e => e, fun _ _ _ e => e⟩ gg.2.1
        have hdrop : ds.drop i = d :: ds.drop (i + 1) := by
          obtain ⟨hlt, e1⟩ := List.getElem?_eq_some_iff.mp ed
          rw [List.drop_eq_getElem_cons hlt, e1]
        rw [hdrop] at er
        unfold lcLoop at er
        obtain ⟨δ1, e1, er⟩ := R.bind_ok er
        obtain ⟨b, e2, er⟩ := R.bind_ok er
        have I0 : EInv M O F' H'' (wipe σ vs) (wipeD δ vs) := ((I.grow g1).grow gg2).wiped vs
        refine ⟨wipeD δ vs, F', d, I0, rx', ?_⟩
        rw [e1]
        intro σ2 I2 hw _
        refine ⟨by rw [hw]; exact wipe_wipe, δ1, F', I2, ?_⟩
        rw [e2]
        intro H3 F3 g3
        have nF3 : ¬ F3 A := fun z => by
          rcases g3.2.2.1 A z with q | q
          · exact nF q
          · rw [g2.1 A _ hAacc] at q; cases q
        have hA3 := g3.1 A _ (g2.1 A _ hAacc)
        cases b with
        | false =>
          simp only [Bool.false_eq_true, if_false] at er ⊢
          exact ⟨rest, er, F3, acc, accd, gg2.trans g3, nF3, hA3, (ra.grow g2).grow g3, ea, Nat.le_succ_of_le la⟩
        | true =>
          simp only [if_true] at er ⊢
          obtain ⟨yv, e3, er⟩ := R.bind_ok er
          obtain ⟨r', e4, er⟩ := R.bind_ok er
          cases er
          refine ⟨δ1, F3, I2.grow g3, ?_⟩
          rw [e3]
          intro v4 H4 F4 g4 r4
          have hA4 := g4.1 A _ hA3
          have nF4 : ¬ F4 A := fun z => by
            rcases g4.2.2.1 A z with q | q
            · exact nF3 q
            · rw [hA3] at q; cases q
          have kk : Keep F4 H4 (upd H4 A (.lst (acc ++ [v4]))) := by
            refine ⟨fun a us hF e => ?_, fun a us e => ?_, fun a o u e => ?_⟩
            · have ne : a ≠ A := fun z => nF4 (by rw [← z]; exact hF)
              rw [upd_ne ne]; exact e
            · rw [upd_ne (ne_of e hA4 (by intro z; cases z))]; exact e
            · rw [upd_ne (ne_of e hA4 (by intro z; cases z))]; exact e
          refine ⟨acc, hA4, ?_, r', e4, F4, acc ++ [v4], accd ++ [yv], ?_, nF4, upd_same, ?_, ?_, ?_⟩
          · rw [ra.length, lim_eq]; omega
          · have gA := (gg2.trans g3).trans g4
            refine ⟨fun a o e => ?_, gA.2.1, gA.2.2.1, fun a e => ?_⟩
            · rw [upd_ne (fun z => by subst z; rw [hA] at e; cases e)]; exact gA.1 a o e
            · obtain ⟨o, e1⟩ := gA.2.2.2 a e
              have ne : a ≠ A := fun z => nF4 (by rw [← z]; exact e)
              exact ⟨o, by rw [upd_ne ne]; exact e1⟩
          · exact ((((ra.grow g2).grow g3).grow g4).mono kk fun _ z => z).append (.cons (r4.mono kk fun _ z => z) .nil)
          · rw [List.append_assoc]; exact ea
          · rw [List.length_append]; simp; omega
      · obtain ⟨rest, er, F', acc, accd, gg, nF, hAacc, ra, ea, la⟩ := p
        rw [List.drop_length] at er
        cases er
        rw [List.append_nil] at ea
        subst ea
        have up : ∀ a, F' a → (fun a => F' a ∨ a = A) a := fun a z => .inl z
        have kp : Keep F' H' H' := ⟨fun _ _ _ e => e, fun _ _ e => e, fun _ _ _ e => e⟩
        refine w1 (.ref A) H' (fun a => F' a ∨ a = A) ?_ (.lst (.inr rfl) hAacc (ra.mono kp up))
        have gA := g1.trans gg
        refine ⟨gA.1, fun a z => .inl (gA.2.1 a z), fun a z => ?_, fun a z => ?_⟩
        · rcases z with z | z
          · exact gA.2.2.1 a z
          · right
            rw [z]
            cases q : H A with
            | none => rfl
            | some o => rw [g1.1 A o q] at hA; cases hA
        · rcases z with z | z
          · exact gA.2.2.2 a z
          · rw [z]; exact ⟨_, hAacc⟩
  · rw [if_neg hl] at w1; exact w1.elim
theorem sd_lcG {elt tg iter : Expr} {ifs : List Expr} {scope : Scope} {own : List (Str × Nat)} {vs : List Nat} {fi : DEnv → R (List D)} {gi : D → DEnv → R DEnv} {ft : DEnv → R Bool} {fe : DEnv → R D} (hc : X.calm = true) (hN : X.N.Nodup)
    (hi : PI X tg iter (tIG M W O fi)) (ok : BlkOk X.N X.env.scope scope own) (hv : own.map (·.2) = vs)
    (hg : ∀ (s : Shared) (H : Hp) (C : Addr) (cl : List (Str × Addr)) (fp : List Addr), PG (X.blk s H scope (compEnvC scope cl C X.env) fp) tg (tGt M O vs gi))
    (ht : ∀ (s : Shared) (H : Hp) (C : Addr) (cl : List (Str × Addr)) (fp : List Addr), PTs (X.blk s H scope (compEnvC scope cl C X.env) fp) ifs (tT M W0 O ft))
    (he : ∀ (s : Shared) (H : Hp) (C : Addr) (cl : List (Str × Addr)) (fp : List Addr), PE (X.blk s H scope (compEnvC scope cl C X.env) fp) elt (tD M W0 O fe))
    (hs : ∀ x, foldedSetIterable iter X.env x = pure x := by intro _; rfl) :
    PE X (.ListComp elt [⟨tg, iter, ifs, 0⟩] scope pos) (tD M W O (lcV vs fi gi ft fe)) := pe_imp (pe_lc hc hN hi ok hg ht he hs) fun σ H Q h => by
  rw [hv]
  exact tLc_ofG h
theorem ss_setLcG (i : Nat) {x : Str} {elt tg iter : Expr} {ifs : List Expr} {scope : Scope} {own : List (Str × Nat)} {vs : List Nat} {p' pc : Pos} {fi : DEnv → R (List D)} {gi : D → DEnv → R DEnv} {ft : DEnv → R Bool} {fe : DEnv → R D} (hc : X.calm = true) (hN : X.N.Nodup)
    (hi : PI X tg iter (tIG M W O fi)) (ok : BlkOk X.N X.env.scope scope own) (hv : own.map (·.2) = vs)
    (hg : ∀ (s : Shared) (H : Hp) (C : Addr) (cl : List (Str × Addr)) (fp : List Addr), PG (X.blk s H scope (compEnvC scope cl C X.env) fp) tg (tGt M O vs gi))
    (ht : ∀ (s : Shared) (H : Hp) (C : Addr) (cl : List (Str × Addr)) (fp : List Addr), PTs (X.blk s H scope (compEnvC scope cl C X.env) fp) ifs (tT M W0 O ft))
    (he : ∀ (s : Shared) (H : Hp) (C : Addr) (cl : List (Str × Addr)) (fp : List Addr), PE (X.blk s H scope (compEnvC scope cl C X.env) fp) elt (tD M W0 O fe))
    (hO : O' = O.filter (· != i) := by rfl) (hx : X.N[i]? = some x := by rfl) (hl : X.env.scope.names.lookup x = some .local := by rfl) (hk : X.env.scope.kind = .function := by rfl) (hln : (p'.line == pc.line) = true := by rfl) (hnm : (scope.names.any fun (n, k) => n == x && (k == .local || k == .cell)) = false := by rfl)
    (hs : ∀ x, foldedSetIterable iter X.env x = pure x := by intro _; rfl) :
    PS X (.Assign [.Name x p'] (.ListComp elt [⟨tg, iter, ifs, 0⟩] scope pc) pos) (tS M W H0 F0 O O' Ol fun δ => inS δ (lcV vs fi gi ft fe δ) fun d => .nxt (δ.set i (some d))) :=
  ps_imp (ps_setLc hc hN hx hl (sw_true hk hl hln hnm) hi ok hg ht he hs) fun E σ H ⟨δ, F, I, w⟩ => by
    rw [hv]
    refine tLc_ofG (tE.inS I w fun d v H' F' _ g r w' => ?_)
    subst hO
    exact w' _ H' F' ((I.grow g).set r)

end
theorem fn_okN {M : Md} {P : Program} {w : World} {base : Heap} {x qual : Str} {st : Stmt} {fa : Addr} {fd : FuncData} {N ps : List Str} {k : Nat} {g : DEnv → Out} {O' : List Nat} {np nn : Nat} (hp : ps.length = np) (hn : N.length = nn) (F : Fun M.K x qual st fa fd) (S : FnScope N ps (defScope st))
    (body : ∀ (cdv : Value) (A : Around) (outer : List Env) (s : Shared) (H : Hp) (E : XK), Room k (A.deeper (envOfC qual (defScope st) s.heap.objs.size fa cdv)) → ∀ (F0 : Addr → Prop),
      PSs (cxOf (L2.CX P w) P w M.K M.mg base N qual (defScope st) fa cdv A outer s H E) (defBody st) (tS M (fun cls d _ H => E cls d H) H F0 [] O' [] g)) :
    FnOk P w M.K M.mg base (L2.CX P w) (k + 1) fa fd ps (spD M (runF np nn g)) := by
  subst hp
  subst hn
  exact fn_ok F S body
end CL

set_option maxHeartbeats 1000000
namespace CL
open PySem PySem.Spec PyProof.Rows L2
/-! ### enumerate(list), abs, sorted(set(pairs)) of an ascending list -/
def enuL (f : DEnv → R D) : DEnv → R (List D) := fun δ => (f δ).bind fun d => match d with
  | .lst l => .ok ((List.range l.length).zipWith (fun (i : Nat) x => .tup [.int (i : Nat), x]) l)
  | _ => .bad
theorem walkEL {M : Md} {F : Addr → Prop} {H : Hp} {K : PySem.W.Frag} {a : Addr} {vs : List V} {ds : List D} (hF : F a) (h : H a = some (.lst vs)) (r : RepAll M F H vs ds) : DWalk M (Ite K a) F H ((List.range ds.length).zipWith (fun (i : Nat) x => .tup [.int (i : Nat), x]) ds) where
  go := fun i H' hi k => by
    have hi' : i < ds.length := by simpa using hi
    obtain ⟨v, hv, _⟩ := r.get (i := i) (d := ds[i]) (by simp [hi'])
    exact ⟨vs, v, SqL.of (k.1 a _ hF h), hv⟩
  stop := fun H' k => ⟨vs, SqL.of (k.1 a _ hF h), by rw [r.length]; simp⟩
  yld := fun i H' x H'' hi k y => by
    have hi' : i < ds.length := by simpa using hi
    obtain ⟨T, x', rfl, hT, rfl, y⟩ := y
    have hv := y vs (SqL.of (k.1 a _ hF h))
    obtain ⟨d, e, q⟩ := r.get' hv
    have k1 : Keep F H (upd H' T (.tup [.int (i : Nat), x'])) := ⟨fun b xs hb e => by have q := k.1 b xs hb e; rw [upd_ne (fun z => by rw [z, hT] at q; cases q)]; exact q, fun b xs e => by have q := k.2.1 b xs e; rw [upd_ne (fun z => by rw [z, hT] at q; cases q)]; exact q, fun b o u e => by have q := k.2.2 b o u e; rw [upd_ne (fun z => by rw [z, hT] at q; cases q)]; exact q⟩
    refine ⟨.tup [.int (i : Nat), d], by simp only [List.getElem?_zipWith, List.getElem?_range hi', e], .inr ⟨T, _, hT, rfl⟩, .tup (upd_same ..) (.cons (.int _) (.cons (q.mono k1 fun _ z => z) .nil))⟩
section
variable {X : Cx} {M : Md} {W : WX} {O : List Nat} {e : Expr} {f : DEnv → R D} {pos p tpos : Pos} {elts : List Expr} {kk : Nat}
theorem si_enuL (hm : X.mg "enumerate" = none) (ha : PE X e (tD M W O f)) (hg : Gl X "enumerate" := by rfl) (hs : starEach [e] X.env = [(false, eval e X.env)] := by rfl) :
    PI X (.Tuple elts kk tpos) (.Call (.Name "enumerate" p) [e] [] pos) (tI M W O (enuL f)) := by
  refine pi_imp (pi_enum hg hm (pa_cons ha pa_nil (by rw [hs]; rfl)) hs) fun σ H Q ⟨δ, F, E, w⟩ => ?_
  show tD M W O f σ H _
  refine tE.one E w fun d v H1 F1 ed g1 r w1 => ?_
  cases d with
  | lst l =>
    cases r with
    | lst h1 h2 h3 => exact ⟨_, _, rfl, SqL.of h2, w1 _ H1 F1 g1 (walkEL h1 h2 h3)⟩
  | _ => exact w1.elim
def D.abs : List D → R D
  | [.int i] => .ok (.int (if i < 0 then -i else i))
  | _ => .bad
theorem cd_abs : CallR X (.builtin "abs") (rC M D.abs) := by
  intro pins s σ H vs us Q I rv ⟨F, ds, dm, r, w⟩
  unfold D.abs at w
  split at w
  · obtain ⟨v, rfl, r1⟩ := all2_one r
    cases (show Rep M F H v _ from r1)
    exact call_abs pins s σ H _ us Q I rv ⟨_, rfl, w _ H F (Grow.refl dm) (.int _)⟩
  · exact w.elim
def pairs : List D → Option (List (Int × Int))
  | [] => some []
  | .tup [.int a, .int b] :: l => (pairs l).map ((a, b) :: ·)
  | _ => none
theorem pairs_eq : ∀ {l : List D} {ps : List (Int × Int)}, pairs l = some ps → l = ps.map fun p => D.tup [.int p.1, .int p.2]
  | [], ps, h => by simp [pairs] at h; subst h; rfl
  | .tup [.int a, .int b] :: l, ps, h => by
    simp only [pairs, Option.map_eq_some_iff] at h
    obtain ⟨qs, h1, rfl⟩ := h
    rw [pairs_eq h1]; rfl
  | .non :: _, _, h => by simp [pairs] at h
  | .bl _ :: _, _, h => by simp [pairs] at h
  | .int _ :: _, _, h => by simp [pairs] at h
  | .str _ :: _, _, h => by simp [pairs] at h
  | .lst _ :: _, _, h => by simp [pairs] at h
  | .dct _ :: _, _, h => by simp [pairs] at h
  | .opq _ _ :: _, _, h => by simp [pairs] at h
  | .tup [] :: _, _, h => by simp [pairs] at h
  | .tup [x] :: _, _, h => by cases x <;> simp [pairs] at h
  | .tup (x :: y :: z :: _) :: _, _, h => by cases x <;> cases y <;> simp [pairs] at h
  | .tup [.non, _] :: _, _, h => by simp [pairs] at h
  | .tup [.bl _, _] :: _, _, h => by simp [pairs] at h
  | .tup [.str _, _] :: _, _, h => by simp [pairs] at h
  | .tup [.lst _, _] :: _, _, h => by simp [pairs] at h
  | .tup [.tup _, _] :: _, _, h => by simp [pairs] at h
  | .tup [.dct _, _] :: _, _, h => by simp [pairs] at h
  | .tup [.opq _ _, _] :: _, _, h => by simp [pairs] at h
  | .tup [.int _, .non] :: _, _, h => by simp [pairs] at h
  | .tup [.int _, .bl _] :: _, _, h => by simp [pairs] at h
  | .tup [.int _, .str _] :: _, _, h => by simp [pairs] at h
  | .tup [.int _, .lst _] :: _, _, h => by simp [pairs] at h
  | .tup [.int _, .tup _] :: _, _, h => by simp [pairs] at h
  | .tup [.int _, .dct _] :: _, _, h => by simp [pairs] at h
  | .tup [.int _, .opq _ _] :: _, _, h => by simp [pairs] at h
def ltPr (a b : Int × Int) : Prop := a.1 * 64 + a.2 < b.1 * 64 + b.2
def upPr : List (Int × Int) → Bool
  | [] => true
  | [_] => true
  | a :: b :: l => decide (a.1 * 64 + a.2 < b.1 * 64 + b.2) && upPr (b :: l)
theorem upPr_pw : ∀ {l : List (Int × Int)}, upPr l = true → l.Pairwise ltPr
  | [], _ => List.Pairwise.nil
  | [a], _ => List.pairwise_singleton _ _
  | a :: b :: l, h => by
    simp only [upPr, Bool.and_eq_true, decide_eq_true_eq] at h
    have ih := upPr_pw h.2
    refine List.pairwise_cons.2 ⟨fun z hz => ?_, ih⟩
    rcases List.mem_cons.1 hz with e | e
    · rw [e]; exact h.1
    · have := (List.pairwise_cons.1 ih).1 z e
      unfold ltPr at this ⊢
      omega
def okPr (ps : List (Int × Int)) : Bool := upPr ps && ps.all (fun p => decide (0 ≤ p.1) && decide (p.1 < 64) && decide (0 ≤ p.2) && decide (p.2 < 64)) && decide (ps.length < 64)
def sortSetT (f : DEnv → R D) : DEnv → R D := fun δ => (f δ).bind fun d => match d with
  | .lst ds => (match pairs ds with
    | some ps => if okPr ps then .ok (.lst ds) else .bad
    | none => .bad)
  | _ => .bad
theorem RepAll.prs {F : Addr → Prop} {H : Hp} : ∀ {vs : List V} {ps : List (Int × Int)}, RepAll M F H vs (ps.map fun p => D.tup [.int p.1, .int p.2]) → ∃ ks : List (Addr × List Int), vs = ks.map (fun k => V.ref k.1) ∧ ks.map (·.2) = ps.map (fun p => [p.1, p.2]) ∧ ∀ k ∈ ks, H k.1 = some (.tup (k.2.map V.int))
  | vs, [], r => by cases r; exact ⟨[], rfl, rfl, by simp⟩
  | vs, p :: ps, r => by
    rw [List.map_cons] at r
    cases r with
    | cons h t =>
      obtain ⟨ks, e1, e2, e3⟩ := RepAll.prs t
      cases h with
      | @tup a xs _ h1 h2 =>
        cases h2 with
        | cons q1 q2 => cases q2 with
          | cons q3 q4 =>
            cases q4
            cases q1
            cases q3
            refine ⟨(a, [p.1, p.2]) :: ks, by rw [e1]; rfl, by rw [List.map_cons, e2]; rfl, fun k hk => ?_⟩
            rcases List.mem_cons.1 hk with e | e
            · rw [e]; exact h1
            · exact e3 k e
theorem codes_unique : ∀ {a b : List (Int × Int)}, a.Pairwise ltPr → b.Pairwise ltPr → (∀ x, x ∈ a ↔ x ∈ b) → a = b
  | [], [], _, _, _ => rfl
  | [], y :: b, _, _, h => by have := (h y).mpr (by simp); simp at this
  | x :: a, [], _, _, h => by have := (h x).mp (by simp); simp at this
  | x :: a, y :: b, ha, hb, h => by
    obtain ⟨a1, a2⟩ := List.pairwise_cons.mp ha
    obtain ⟨b1, b2⟩ := List.pairwise_cons.mp hb
    have e : x = y := by
      rcases List.mem_cons.mp ((h x).mp (by simp)) with e | e
      · exact e
      · rcases List.mem_cons.mp ((h y).mpr (by simp)) with e' | e'
        · exact e'.symm
        · have := a1 y e'; have := b1 x e; unfold ltPr at *; omega
    subst e
    rw [codes_unique a2 b2 fun z => ⟨fun hz => ?_, fun hz => ?_⟩]
    · rcases List.mem_cons.mp ((h z).mp (by simp [hz])) with e | e
      · have := a1 z hz; unfold ltPr at this; rw [e] at this; omega
      · exact e
    · rcases List.mem_cons.mp ((h z).mpr (by simp [hz])) with e | e
      · have := b1 z hz; unfold ltPr at this; rw [e] at this; omega
      · exact e
theorem sd_sortSetT {a : Expr} {p2 q : Pos} (hc : X.calm = true) (hu : X.A.units + 64 < cLine) (hm : X.mg "sorted" = none) (hm2 : X.mg "set" = none) (ha : PE X a (tD M W O f)) (hg : Gl X "sorted" := by rfl) (hg2 : Gl X "set" := by rfl)
    (na : starEach [a] X.env = (false, eval a X.env) :: starEach [] X.env := by rfl) (hs1 : starEach [.Call (.Name "set" p2) [a] [] q] X.env = (false, eval (.Call (.Name "set" p2) [a] [] q) X.env) :: starEach [] X.env := by rfl) :
    PE X (.Call (.Name "sorted" p) [.Call (.Name "set" p2) [a] [] q] [] pos) (tD M W O (sortSetT f)) := by
  refine pe_imp (pe_callB (cr_sortedT hc) hg hm (by decide +kernel) (pa_cons (pe_callTy (cr_setOfT hc hu) hg2 hm2 (by decide +kernel) (pa_cons ha pa_nil na) (he := na) (hpl := rfl)) pa_nil hs1) (he := hs1) (hpl := rfl)) fun σ H Q ⟨δ, F, E, w⟩ => ?_
  show tD M W O f σ H _
  refine tE.one E w fun d v H1 F1 ed g1 r w1 => ?_
  cases d with
  | lst ds =>
    cases r with
    | lst h1 h2 h3 =>
      simp only at w1
      split at w1
      · rename_i ps hps
        split at w1
        · rename_i hok
          have eds := pairs_eq hps
          rw [eds] at h3
          obtain ⟨ks, k1, k2, k3⟩ := h3.prs
          simp only [okPr, Bool.and_eq_true, decide_eq_true_eq, List.all_eq_true] at hok
          obtain ⟨⟨hup, hbd⟩, hlen⟩ := hok
          have hkl : ks.length = ps.length := by have := congrArg List.length k2; simpa using this
          have hkp : ∀ k ∈ ks, ∃ pr ∈ ps, k.2 = [pr.1, pr.2] := fun k hk => by
            have : k.2 ∈ ps.map (fun p => [p.1, p.2]) := by rw [← k2]; exact List.mem_map.2 ⟨k, hk, rfl⟩
            obtain ⟨pr, hpr, e⟩ := List.mem_map.1 this
            exact ⟨pr, hpr, e.symm⟩
          refine ⟨_, ks, rfl, SqL.of (by rw [h2, k1]), fun k hk => SqT.of (k3 k hk), by omega, fun sa L hsa hL1 hL2 => ?_⟩
          have g2 := Grow.newT (o := SetTO X.prog X.w sa L) g1.dom hsa
          refine ⟨sa, L, 2, 64, rfl, upd_same, fun k hk => SqT.of (g2.1 _ _ (k3 k (hL1 k hk))), by decide, fun k hk => ?_, fun L' l' hpm hnd hl64 hcode hl' => ?_⟩
          · obtain ⟨pr, hpr, e⟩ := hkp k (hL1 k hk)
            rw [e]
            obtain ⟨⟨⟨b1, b2⟩, b3⟩, b4⟩ := hbd pr hpr
            refine ⟨rfl, ?_⟩
            intro z hz
            simp at hz
            rcases hz with rfl | rfl
            · exact ⟨b1, b2⟩
            · exact ⟨b3, b4⟩
          · have hL'k : ∀ k ∈ L', k ∈ ks := fun k hk => hL1 k (hpm.mem_iff.1 hk)
            -- the pairs of L' are ps
            have e2 : L'.map (·.2) = ps.map fun p => [p.1, p.2] := by
              have toP : ∀ k ∈ L', k.2 = [(k.2[0]?.getD 0), (k.2[1]?.getD 0)] := fun k hk => by
                obtain ⟨pr, _, e⟩ := hkp k (hL'k k hk)
                rw [e]; rfl
              have eq1 : L'.map (·.2) = (L'.map fun k => ((k.2[0]?.getD 0, k.2[1]?.getD 0) : Int × Int)).map fun p => [p.1, p.2] := by
                rw [List.map_map]
                exact List.map_congr_left fun k hk => toP k hk
              rw [eq1]
              congr 1
              refine codes_unique ?_ (upPr_pw hup) fun x => ?_
              · rw [List.pairwise_map]
                have nd2 := List.pairwise_map.1 (List.nodup_iff_pairwise_ne.1 hnd)
                refine (List.Pairwise.and hcode nd2).imp_of_mem fun {k k'} hk hk' ⟨c, ne⟩ => ?_
                rw [toP k hk, toP k' hk', code_pair, code_pair] at c
                obtain ⟨pr, hpr, e⟩ := hkp k (hL'k k hk)
                obtain ⟨pr', hpr', e'⟩ := hkp k' (hL'k k' hk')
                obtain ⟨⟨⟨b1, b2⟩, b3⟩, b4⟩ := hbd pr hpr
                obtain ⟨⟨⟨b5, b6⟩, b7⟩, b8⟩ := hbd pr' hpr'
                rw [e, e'] at c ne ⊢
                unfold ltPr
                simp at c ne ⊢
                omega
              · constructor
                · intro hx
                  obtain ⟨k, hk, rfl⟩ := List.mem_map.1 hx
                  obtain ⟨pr, hpr, e⟩ := hkp k (hL'k k hk)
                  rw [e]
                  exact hpr
                · intro hx
                  have : [x.1, x.2] ∈ ks.map (·.2) := by rw [k2]; exact List.mem_map.2 ⟨x, hx, rfl⟩
                  obtain ⟨k, hk, e⟩ := List.mem_map.1 this
                  obtain ⟨k', hk', e'⟩ := List.mem_map.1 (hL2 k hk)
                  refine List.mem_map.2 ⟨k', hpm.mem_iff.2 hk', ?_⟩
                  rw [e', e]
                  rfl
            have g3 := Grow.newL (o := .lst (L'.map fun q => V.ref q.1)) g2.dom hl'
            refine w1 (.ref l') _ _ ((g1.trans g2).trans g3) (.lst (.inr rfl) upd_same ?_)
            have e3 : ds = L'.map fun k => D.tup (k.2.map D.int) := by
              have : (L'.map fun k => D.tup (k.2.map D.int)) = (L'.map (·.2)).map fun k => D.tup (k.map D.int) := by rw [List.map_map]; rfl
              rw [this, e2, eds, List.map_map]
              rfl
            rw [e3]
            have hall : ∀ k ∈ L', (upd (upd H1 sa (SetTO X.prog X.w sa L)) l' (.lst (L'.map fun q => V.ref q.1))) k.1 = some (.tup (k.2.map V.int)) := fun k hk => g3.1 _ _ (g2.1 _ _ (k3 k (hL'k k hk)))
            revert hall
            generalize (upd (upd H1 sa (SetTO X.prog X.w sa L)) l' (.lst (L'.map fun q => V.ref q.1))) = H9
            intro hall
            clear e3 g3 w1 hcode hnd hpm hl64 e2 hL'k
            induction L' with
            | nil => exact .nil
            | cons k L' ih =>
              rw [List.map_cons, List.map_cons]
              exact .cons (.tup (hall k (by simp)) RepAll.of_ints) (ih (fun z hz => hall z (by simp [hz])))
        · exact w1.elim
      · exact w1.elim
  | _ => exact w1.elim
end
end CL

set_option maxHeartbeats 1000000
namespace CL
open PySem PySem.Spec PyProof.Rows L2
section
variable {X : Cx} {M : Md} {W : WX} {H0 : Hp} {F0 : Addr → Prop} {O O' Ol : List Nat} {pos : Pos} {e : Expr} {f : DEnv → R D}
/-! ### x = xs.pop(i), xs.extend(ys) -/
def popS (i j : Nat) (f : DEnv → R D) : DEnv → Out := fun δ => match δ[i]? with
  | some (some (.lst l)) => inS δ (f δ) fun d => (match d with
    | .int z => if lim < l.length then .bad else (match ixN l.length z with
      | some k => (match l[k]? with | some d' => .nxt ((δ.set i (some (.lst (l.eraseIdx k)))).set j (some d')) | none => .bad)
      | none => .bad)
    | _ => .bad)
  | _ => .bad
theorem ss_pop (i j : Nat) {x y : Str} {p' p1 ap cp : Pos} (hN0 : X.N.Nodup) (h : PE X e (tD M W O f)) (hO : O.contains i = true := by rfl) (hO' : O' = O.filter (· != j) := by rfl) (hN : X.N[i]? = some y := by rfl) (hv : Vis X.env.scope y := by first | exact Or.inl rfl | exact Or.inr (Or.inl rfl) | exact Or.inr (Or.inr rfl)) (hd : (y == ("__debug__" : Str)) = false := by decide) (hcd : (y == ("__classdict__" : Str)) = false := by decide)
    (hj : X.N[j]? = some x := by rfl) (hx : Loc X.env.scope x := by first | exact Or.inl rfl | exact Or.inr rfl) (hsw : swapsWith (.Call (.Attribute (.Name y p1) "pop" ap) [e] [] cp) (some (.Name x p')) pos.line X.env = pure false := by rfl)
    (hf : X.fn x = true ∨ X.env.scope.names.lookup x = some .local := by first | exact .inl rfl | exact .inr rfl)
    (hbase : attributeBase (.Name y p1) "pop" X.env (eval (.Name y p1) X.env) = eval (.Name y p1) X.env := by rfl)
    (hfew : ((backTo cp (starEach [e] X.env)).all (fun x => !x.1) && (backToKw cp (keywordEach [] X.env)).all (fun x => x.1.isSome) && decide ([e].length + ([] : List Keyword).length + (if ([] : List Keyword).isEmpty then 0 else 1) < 30)) = true := by rfl)
    (hline : (ap.endLine == cp.line) = true := by rfl) (hs : starEach [e] X.env = (false, eval e X.env) :: starEach [] X.env := by rfl) (hpl : (backTo cp (starEach [] X.env)).any (·.1) = false := by rfl) :
    PS X (.Assign [.Name x p'] (.Call (.Attribute (.Name y p1) "pop" ap) [e] [] cp) pos) (tS M W H0 F0 O O' Ol (popS i j f)) := ps_imp (ps_set hN0 hj hx (pe_bm PySem.F.plainAttrs_list PySem.F.slot_list_pop PySem.F.type_list_pop mt_popAt (pe_var (i := i) hN hv hd hcd) (pa_cons h pa_nil hs) hbase hfew hline hs hpl) hsw hf) fun E σ H ⟨δ, F, I, w⟩ => by
  have hO : i ∈ O := by simpa using hO
  unfold popS at w
  split at w
  · rename_i l e1
    obtain ⟨p, vs, e2, h1, r1⟩ := I.e.ownL hO e1
    refine ⟨_, e2, .inl ⟨rfl, _, SqL.of h1⟩, ?_⟩
    refine tE.inS I w fun d v H' F' _ g r w' => ?_
    cases d with
    | int z =>
      cases r
      simp only at w'
      split at w'
      · exact w'.elim
      rename_i hlim
      split at w'
      · rename_i k hk
        split at w'
        · rename_i d' hd'
          have h1' := g.1 p _ h1
          have r1' := r1.grow g
          obtain ⟨y', hy', ry'⟩ := r1'.get hd'
          rw [← r1'.length] at hk
          obtain ⟨q1, q2, q3, q4⟩ := ixN_seq hk
          have I1 := I.grow g
          obtain ⟨p2, e3, nf, _⟩ := I1.e.own i _ hO e1
          rw [e2] at e3
          cases e3
          have kk := keep_list (acc' := vs.eraseIdx k) nf h1'
          subst hO'
          have hlen : vs.length ≤ 16777216 := by rw [r1'.length]; exact Nat.not_lt.1 hlim
          refine ⟨p, vs, z, k, y', rfl, rfl, h1', ?_, ?_, q1, hy', ?_⟩
          · omega
          · omega
          · exact w' _ _ F' ((I1.mut hO e1 e2 (r1'.erase k)).set (ry'.mono kk fun _ z => z))
        · exact w'.elim
      · exact w'.elim
    | _ => exact w'.elim
  · exact w.elim
def extS (i : Nat) (f : DEnv → R D) : DEnv → Out := fun δ => match δ[i]? with
  | some (some (.lst l)) => inS δ (f δ) fun d => (match d with
    | .lst l2 => if l.length + l2.length ≤ lim then .nxt (δ.set i (some (.lst (l ++ l2)))) else .bad
    | _ => .bad)
  | _ => .bad
theorem ss_extend (i : Nat) {x : Str} {p1 ap cp : Pos} (h : PE X e (tD M W O f)) (hO : O.contains i = true := by rfl) (hN : X.N[i]? = some x := by rfl) (hv : Vis X.env.scope x := by first | exact Or.inl rfl | exact Or.inr (Or.inl rfl) | exact Or.inr (Or.inr rfl)) (hd : (x == ("__debug__" : Str)) = false := by decide) (hcd : (x == ("__classdict__" : Str)) = false := by decide)
    (hbase : attributeBase (.Name x p1) "extend" X.env (eval (.Name x p1) X.env) = eval (.Name x p1) X.env := by rfl)
    (hfew : ((backTo cp (starEach [e] X.env)).all (fun x => !x.1) && (backToKw cp (keywordEach [] X.env)).all (fun x => x.1.isSome) && decide ([e].length + ([] : List Keyword).length + (if ([] : List Keyword).isEmpty then 0 else 1) < 30)) = true := by rfl)
    (hline : (ap.endLine == cp.line) = true := by rfl) (hs : starEach [e] X.env = (false, eval e X.env) :: starEach [] X.env := by rfl) (hpl : (backTo cp (starEach [] X.env)).any (·.1) = false := by rfl) :
    PS X (.Expr (.Call (.Attribute (.Name x p1) "extend" ap) [e] [] cp) pos) (tS M W H0 F0 O O Ol (extS i f)) := ps_imp (ps_expr (pe_bm PySem.F.plainAttrs_list PySem.F.slot_list_extend PySem.F.type_list_extend mt_extend (pe_var (i := i) hN hv hd hcd) (pa_cons h pa_nil hs) hbase hfew hline hs hpl)) fun E σ H ⟨δ, F, I, w⟩ => by
  have hO : i ∈ O := by simpa using hO
  unfold extS at w
  split at w
  · rename_i l e1
    obtain ⟨p, vs, e2, h1, r1⟩ := I.e.ownL hO e1
    refine ⟨_, e2, .inl ⟨rfl, _, SqL.of h1⟩, ?_⟩
    refine tE.inS I w fun d v H' F' _ g r w' => ?_
    cases d with
    | lst l2 =>
      simp only at w'
      split at w'
      · rename_i hl
        cases r with
        | lst q1 q2 q3 =>
          have h1' := g.1 p _ h1
          have r1' := r1.grow g
          refine ⟨p, _, vs, _, rfl, rfl, h1', q2, by rw [r1'.length, q3.length, lim_eq]; exact hl, ?_⟩
          exact w' _ _ F' ((I.grow g).mut hO e1 e2 (r1'.append q3))
      · exact w'.elim
    | _ => exact w'.elim
  · exact w.elim
end
end CL

set_option maxHeartbeats 1000000
namespace CL
open PySem PySem.Spec PyProof.Rows L2

/-! ### what leaves the cells as they are -/
def Kc (X : Cx) (s s' : Shared) : Prop := (∀ x c v, X.env.cells.lookup x = some c → s.heap.IsCell c v → s'.heap.IsCell c v) ∧ s.toks ≤ s'.toks
theorem Kc.refl {X : Cx} {s : Shared} : Kc X s s := ⟨fun _ _ _ _ h => h, Nat.le_refl _⟩
theorem Kc.trans {X : Cx} {a b c : Shared} (h : Kc X a b) (k : Kc X b c) : Kc X a c := ⟨fun x d v e q => k.1 x d v e (h.1 x d v e q), Nat.le_trans h.2 k.2⟩
theorem Kc.push {X : Cx} {s : Shared} {o : Obj} {t : Nat} (h : s.toks ≤ t) : Kc X s { s with heap := s.heap.push o, toks := t } := ⟨fun _ _ _ _ ⟨ob, e, d⟩ => ⟨ob, Heap.get?_push_of_some _ e, d⟩, h⟩
theorem Kc.tok {X : Cx} {s : Shared} {t : Nat} (h : s.toks ≤ t) : Kc X s { s with toks := t } := ⟨fun _ _ _ _ q => q, h⟩
theorem Kc.un {X : Cx} {pins : List (Addr × Obj)} {σ : L2.St} {H H' : Hp} {s s' : Shared} {ch : List Addr} (I : L2.Inv X pins σ H s) (u : Un (frs X.stack) ch H H' s.heap s'.heap) (hch : ∀ b ∈ ch, ∀ x c, X.env.cells.lookup x = some c → c ≠ b) (t : s.toks ≤ s'.toks) : Kc X s s' :=
  ⟨fun x c v e ⟨o, h1, h2⟩ => by
    obtain ⟨sl, q⟩ := u.any h1 (I.freeC x c e) (fun hb => hch c hb x c e rfl)
    exact ⟨_, q, h2⟩, t⟩
theorem Kc.same {X : Cx} {s : Shared} {h' : Heap} {C : Addr} {t : Nat} (sb : Heap.SameBut C s.heap h') (hC : ∀ x c, X.env.cells.lookup x = some c → c ≠ C) (ht : s.toks ≤ t) : Kc X s { s with heap := h', toks := t } :=
  ⟨fun x c v e ⟨o, h1, h2⟩ => ⟨o, (sb.2 c (hC x c e)).trans h1, h2⟩, ht⟩
theorem Ck.kc {X : Cx} {x : Str} {s s' : Shared} (h : Ck X x s) (k : Kc X s s') : Ck X x s' :=
  let ⟨c, y, t, h1, h2, h3, h4⟩ := h; ⟨c, y, t, h1, k.1 x c _ h1 h2, h3, Nat.lt_of_lt_of_le h4 k.2⟩
def EK (X : Cx) (pins : List (Addr × Obj)) (σ : L2.St) (s : Shared) (Q : VK) (u : Value) (s' : Shared) : Prop := EP X pins σ Q u s' ∧ Kc X s s'
structure PEk (X : Cx) (e : Expr) (t : TE) : Prop where
  run : ∀ (pins : List (Addr × Obj)) (s : Shared) (σ : L2.St) (H : Hp) (Q : VK), L2.Inv X pins σ H s → t σ H Q → wpAny (model X.prog X.w) X.A (eval e X.env) (EK X pins σ s Q) X.xe s
structure PTk (X : Cx) (e : Expr) (t : TT) : Prop where
  run : ∀ (pins : List (Addr × Obj)) (s : Shared) (σ : L2.St) (H : Hp) (Q : Bool → Hp → Prop), L2.Inv X pins σ H s → t σ H Q → wpAny (model X.prog X.w) X.A (isTrue e X.env (eval e X.env)) (fun b s' => TP X pins σ Q b s' ∧ Kc X s s') X.xe s
structure PIk (X : Cx) (tg iter : Expr) (wi : TI) : Prop where
  run : ∀ (pins : List (Addr × Obj)) (s : Shared) (σ : L2.St) (H : Hp) (R : It → Hp → Prop), L2.Inv X pins σ H s → wi σ H R →
    wpAny (model X.prog X.w) X.A (eval iter X.env) (fun v s1 => wpAny (model X.prog X.w) X.A (pyIter v) (fun u s2 => PIE X pins σ tg R u s2 ∧ Kc X s s2) X.xe s1) X.xe s
structure PSk (X : Cx) (st : Stmt) (t : TS) : Prop where
  run : ∀ (pins : List (Addr × Obj)) (s : Shared) (σ : L2.St) (H : Hp) (D : Ends), L2.Inv X pins σ H s → t D σ H → wpAny (model X.prog X.w) X.A (exec st X.env) (fun f s' => SP X pins D f s' ∧ (f = .next → Kc X s s')) X.xe s
structure PSsk (X : Cx) (sts : List Stmt) (t : TS) : Prop where
  run : ∀ (pins : List (Addr × Obj)) (s : Shared) (σ : L2.St) (H : Hp) (D : Ends), L2.Inv X pins σ H s → t D σ H → wpAny (model X.prog X.w) X.A (execs sts X.env) (fun f s' => SP X pins D f s' ∧ (f = .next → Kc X s s')) X.xe s
section
variable {X : Cx}
theorem pek_imp {e : Expr} {t t' : TE} (h : PEk X e t) (i : ∀ σ H Q, t' σ H Q → t σ H Q) : PEk X e t' := ⟨fun pins s σ H Q I q => h.run pins s σ H Q I (i σ H Q q)⟩
theorem ptk_imp {e : Expr} {t t' : TT} (h : PTk X e t) (i : ∀ σ H Q, t' σ H Q → t σ H Q) : PTk X e t' := ⟨fun pins s σ H Q I q => h.run pins s σ H Q I (i σ H Q q)⟩
theorem pik_imp {tg iter : Expr} {t t' : TI} (h : PIk X tg iter t) (i : ∀ σ H Q, t' σ H Q → t σ H Q) : PIk X tg iter t' := ⟨fun pins s σ H Q I q => h.run pins s σ H Q I (i σ H Q q)⟩
theorem psk_imp {st : Stmt} {t t' : TS} (h : PSk X st t) (i : ∀ D σ H, t' D σ H → t D σ H) : PSk X st t' := ⟨fun pins s σ H Q I q => h.run pins s σ H Q I (i Q σ H q)⟩
theorem pssk_imp {st : List Stmt} {t t' : TS} (h : PSsk X st t) (i : ∀ D σ H, t' D σ H → t D σ H) : PSsk X st t' := ⟨fun pins s σ H Q I q => h.run pins s σ H Q I (i Q σ H q)⟩
theorem PEu.k {e : Expr} {t : TE} (h : PEu X e t) : PEk X e t := ⟨fun pins s σ H Q I q => thn (h.run pins s σ H Q I q) fun v s' ⟨x, H', a, b, c, u, tk⟩ => ⟨⟨x, H', a, b, c⟩, Kc.un I u (fun _ h => (nomatch h)) tk⟩⟩
theorem pik_tup {tg iter : Expr} {te : TE} (he : PEk X iter te) : PIk X tg iter (fun σ H R => te σ H fun v H1 => ∃ a, v = .ref a ∧ (∃ xs, SqT X.K H1 a xs) ∧ R (Itt X.K a) H1) := by
  refine ⟨fun pins s σ H R I h => thn (he.run pins s σ H _ I h) fun v s1 ⟨⟨x, H1, I1, r1, a, ex, ⟨xs, hq⟩, q⟩, k1⟩ => ?_⟩
  subst ex
  cases r1
  obtain ⟨its, rv, p, hz⟩ := I1.tuple hq
  refine wpAny_pyIter_tuple (show s1.heap.IsTuple a its.toArray from p) ?_
  refine ⟨⟨s1.heap.objs.size, [s1.heap.objs.size], _, _, H1, rfl, I1.kept (t' := s1.toks) fun b o e => Heap.get?_push_of_some _ e, turn_tuple a _, ⟨_, Heap.get?_push_size _ rfl, rfl, rfl⟩, fun b hb => ?_, q⟩, k1.trans (Kc.push (Nat.le_refl _))⟩
  have e : b = s1.heap.objs.size := by simpa using hb
  subst e
  exact I1.fpOk (Nat.le_refl _) (I1.hok.fresh (Nat.le_refl _))
/-! ### a comprehension -/
theorem lc_k {pins : List (Addr × Obj)} {s : Shared} {σ : L2.St} {H : Hp} {Q : VK} {elt tg iter : Expr} {ifs : List Expr} {scope : Scope} {own : List (Str × Nat)} {pos pos' : Pos} {wi : TI} {g : TG} {tt : TT} {te : TE} {use : Option (Value → Sem Unit)} {Qf : Value → Shared → Prop}
    (hc : X.calm = true) (hN : X.N.Nodup) (I : L2.Inv X pins σ H s) (hi : PIk X tg iter wi) (ok : BlkOk X.N X.env.scope scope own)
    (hg : ∀ (s : Shared) (H : Hp) (C : Addr) (cl : List (Str × Addr)) (fp : List Addr), PG (X.blk s H scope (compEnvC scope cl C X.env) fp) tg g) (ht : ∀ (s : Shared) (H : Hp) (C : Addr) (cl : List (Str × Addr)) (fp : List Addr), PTs (X.blk s H scope (compEnvC scope cl C X.env) fp) ifs tt)
    (he : ∀ (s : Shared) (H : Hp) (C : Addr) (cl : List (Str × Addr)) (fp : List Addr), PE (X.blk s H scope (compEnvC scope cl C X.env) fp) elt te) (hs : ∀ x, foldedSetIterable iter X.env x = pure x)
    (h : tLc wi g tt te (own.map (·.2)) σ H Q)
    (hRR : ∀ D C s' m H', L2.Inv X pins σ H' s' → Q (.ref D) H' → s'.heap.Ns C m → FpOk X pins H' C → Kc X s s' → compPost (model X.prog X.w) X.A X.xe use Qf (.ref D) C (.ok .next) s') :
    wpAny (model X.prog X.w) X.A (comprehension (.ListComp elt [⟨tg, iter, ifs, 0⟩] scope pos) scope X.env pos' (newList []) false (eval iter X.env) use) Qf X.xe s := by
  have hfree : ∀ y ∈ scope.names, y.2 = .free → ∃ c, X.env.cells.lookup y.1 = some c := fun y hy e => by
    rcases ok.free y hy e with k | k
    · exact I.ok.has _ (.inl k)
    · exact I.ok.has _ (.inr k)
  refine wpAny_comprehension_free (use := use) rfl hs (closure_ok hfree) ok.kind (fun y hy e => by rw [ok.uniq y hy, e])
    (thn (hi.run pins s σ H _ I h) fun xv s1 hx => thn hx fun itv s2 h2 => ?_)
  obtain ⟨⟨it, fp, tn, J, H2, e, I2, T, st2, f2, q⟩, kc2⟩ := h2
  subst e
  refine wpAny_newObj_type (newEnv_comp ?_) (by show 0 ≤ sizeLine; decide)
  generalize hD : s2.heap.objs.size = D
  have hDn : H2 D = none := I2.hok.fresh (Nat.le_of_eq hD)
  obtain ⟨W, ⟨m0, w0⟩, turn⟩ := q D hDn
  generalize hs3 : ({ s2 with heap := s2.heap.push { cls := .type "list", data := .seq ([] : List Value).toArray } } : Shared) = s3
  have kc3 : Kc X s s3 := by rw [← hs3]; exact kc2.trans (Kc.push (Nat.le_refl _))
  have I3 : L2.Inv X pins σ (upd H2 D (.lst [])) s3 := by
    rw [← hs3]
    refine I2.laid (t' := s2.toks) (fun b o e => Heap.get?_push_of_some _ e) (Nat.le_of_eq hD) ⟨Nat.zero_le _, [], 0, .nil, ?_⟩
    rw [← hD]
    exact Heap.get?_push_size _ rfl
  have h3 : s3.heap = s2.heap.push { cls := .type "list", data := .seq ([] : List Value).toArray } := by rw [← hs3]
  have sz : ∀ b ∈ fp, b < s2.heap.objs.size := fun b hb => by
    obtain ⟨o, e, _⟩ := T.obj _ _ st2 b hb
    exact Heap.lt_size e
  have f3 : ∀ b ∈ fp, FpOk X pins (upd H2 D (.lst [])) b ∧ b < s3.heap.objs.size := fun b hb => by
    have hlt := sz b hb
    refine ⟨⟨?_, (f2 b hb).2⟩, by rw [h3, Heap.size_push]; exact Nat.lt_succ_of_lt hlt⟩
    rw [upd_ne (by rw [← hD]; exact Nat.ne_of_lt hlt)]
    exact (f2 b hb).1
  have st3 : tn 0 s3.heap := T.keep _ _ _ st2 fun b _ o e => by rw [h3]; exact Heap.get?_push_of_some _ e
  have I4 := block_start I3 ok hN f3
  have pg := hg s3 (upd H2 D (.lst [])) s3.heap.objs.size (cellsFrom (s3.heap.objs.size + 1) scope.names (cloFrom X.env.cells scope.names [])) fp
  have pt := ht s3 (upd H2 D (.lst [])) s3.heap.objs.size (cellsFrom (s3.heap.objs.size + 1) scope.names (cloFrom X.env.cells scope.names [])) fp
  have pe := he s3 (upd H2 D (.lst [])) s3.heap.objs.size (cellsFrom (s3.heap.objs.size + 1) scope.names (cloFrom X.env.cells scope.names [])) fp
  show codeAny _ _ (.compStart (.ListComp elt [⟨tg, iter, ifs, 0⟩] scope pos) 0 (.ref it) (.ref D) (compEnvC scope (cellsFrom (s3.heap.objs.size + 1) scope.names (cloFrom X.env.cells scope.names [])) s3.heap.objs.size X.env)) (compPost (model X.prog X.w) X.A X.xe use Qf (.ref D) s3.heap.objs.size) { s3 with heap := pushCells (s3.heap.push { cls := .type "dict", data := .dict #[] }) scope.names }
  have nfp : ∀ b ∈ fp, (upd H2 D (.lst [])) b = none := fun b hb => (f3 b hb).1.1
  generalize hce : compEnvC scope (cellsFrom (s3.heap.objs.size + 1) scope.names (cloFrom X.env.cells scope.names [])) s3.heap.objs.size X.env = ce at I4 pg pt pe ⊢
  have cL : ce.locals = s3.heap.objs.size := by subst hce; rfl
  generalize hH3 : upd H2 D (.lst []) = H3 at I3 I4 pg pt pe w0 nfp f3
  generalize hs4 : ({ s3 with heap := pushCells (s3.heap.push { cls := .type "dict", data := .dict #[] }) scope.names } : Shared) = s4 at I4 ⊢
  have tk4 : s3.toks ≤ s4.toks := by rw [← hs4]; exact Nat.le_refl _
  have st4 : tn 0 s4.heap := T.keep _ _ _ st3 fun b _ o e => by rw [← hs4]; exact pushCells_keeps _ _ _ _ (Heap.get?_push_of_some _ e)
  have stat : ∀ {σ' : L2.St} {H' : Hp} {s' : Shared}, L2.Inv (X.blk s3 H3 scope ce fp) [] σ' H' s' → (∀ b ∈ fp, H' b = none) → ∀ b ∈ fp, FpOk (X.blk s3 H3 scope ce fp) [] H' b := fun {σ' H' s'} I' hn b hb =>
    ⟨hn b hb, (I'.ok.exf b hb).1, I'.ok.exfs b hb, .inl hb, fun x c e => (I'.ok.exf b hb).2 x c e, fun p hp => absurd (show p ∈ ([] : List (Addr × Obj)) ++ [] from hp) (by simp)⟩
  have loop : codeAny (model X.prog X.w) X.A (.compLoop (.ListComp elt [⟨tg, iter, ifs, 0⟩] scope pos) 0 (.ref it) (.ref D) ce) (compPost (model X.prog X.w) X.A X.xe use Qf (.ref D) s3.heap.objs.size) s4 := by
    refine compLoop_any (fun n s' => s3.toks ≤ s'.toks ∧ ∃ i H', L2.Inv (X.blk s3 H3 scope ce fp) [] (wipe σ (own.map (·.2))) H' s' ∧ tn i s'.heap ∧ (∀ b ∈ fp, H' b = none) ∧ W i n H') ?_ m0 ⟨tk4, 0, H3, I4, st4, nfp, w0⟩
    rintro n s5 ⟨tk5, i, H5, I5, st5, n5, w5⟩
    rcases turn i n H5 w5 with ⟨stop, qq⟩ | ⟨go, Nx, hNx, step⟩
    · have td := T.done (X.blk s3 H3 scope ce fp) rfl rfl rfl hc i [] s5 _ H5 (fun _ _ => False) I5 (stat I5 n5) st5 stop
      refine thnT tk5 td fun r s6 tk6 ⟨hr, I6⟩ => ?_
      subst hr
      have I7 : L2.Inv X pins σ H5 s6 := I3.call' (ch := fp) I6.os I6.base I6.hok I6.bare fun b hb => ⟨(f3 b hb).1.2.2.2.1, (f3 b hb).1.2.1, (f3 b hb).1.2.2.2.2.1, (f3 b hb).1.2.2.2.2.2⟩
      have nC : H5 s3.heap.objs.size = none := by
        have z : H5 ce.locals = none := I6.free
        rw [cL] at z
        exact z
      obtain ⟨m, hn, _⟩ := I6.loc
      have hn : s6.heap.Ns ce.locals m := hn
      rw [cL] at hn
      have kc6 : Kc X s3 s6 := Kc.un (ch := fp) I3 I6.base (fun b hb x c e => (f3 b hb).1.2.2.2.2.1 x c e) tk6
      exact hRR D s3.heap.objs.size s6 m H5 I7 qq hn (I3.fpOk (Nat.le_refl _) nC) (kc3.trans kc6)
    · have ti := T.item (X.blk s3 H3 scope ce fp) rfl rfl rfl hc i [] s5 _ H5 (fun _ _ => False) I5 (stat I5 n5) st5 go
      refine thnT tk5 ti fun r s6 tk6 ⟨u, hr, h6⟩ => ?_
      subst hr
      refine thnT tk6 h6 fun _ s7 tk7 ⟨x, H7, I7, r7, y7, st7, n7⟩ => ?_
      have I7' := I7.pinned (stat I7 n7) (T.obj _ _ st7)
      refine thnT tk7 (pg.run _ s7 _ H7 x u _ I7' r7 (step x H7 y7)) fun _ s8 tk8 ⟨σ8, H8, I8, hw8, q8⟩ => ?_
      refine thnT tk8 (pt.run _ s8 σ8 H8 _ I8 q8) fun b s9 tk9 ⟨H9, I9, q9⟩ => ?_
      have fin : ∀ {s' : Shared} {H' : Hp}, L2.Inv (X.blk s3 H3 scope ce fp) ([] ++ pinsAt fp s7.heap) σ8 H' s' → s3.toks ≤ s'.toks → Nx H' → ∃ m, m < n ∧ s3.toks ≤ s'.toks ∧ ∃ i H', L2.Inv (X.blk s3 H3 scope ce fp) [] (wipe σ (own.map (·.2))) H' s' ∧ tn i s'.heap ∧ (∀ b ∈ fp, H' b = none) ∧ W i m H' := fun {s' H'} I' tk' nx => by
        obtain ⟨m', hm, w'⟩ := hNx H' nx
        have pin' : ∀ b ∈ fp, ∀ o, s7.heap.get? b = some o → s'.heap.get? b = some o ∧ H' b = none := fun b hb o e =>
          let z := I'.pin (b, o) (List.mem_append_right _ (List.mem_append_right _ (mem_pinsAt hb e)))
          ⟨z.1, z.2.1⟩
        have hl : (wipe σ (own.map (·.2))).length = σ8.length := by rw [← hw8, wipe_length]
        refine ⟨m', hm, tk', i + 1, H', (I'.unpinned (pins := [])).weak hl (fun j v e => ?_), T.keep _ _ _ st7 fun b hb o e => (pin' b hb o e).1, fun b hb => ?_, w'⟩
        · rw [← hw8] at e
          exact (wipe_some e).1
        · obtain ⟨o, e, _⟩ := T.obj _ _ st7 b hb
          exact (pin' b hb o e).2
      cases b with
      | false =>
        simp only [Bool.false_eq_true, if_false] at q9 ⊢
        exact fin I9 tk9 q9
      | true =>
        simp only [if_true] at q9 ⊢
        refine thnT tk9 (pe.run _ s9 σ8 H9 _ I9 q9) fun z s10 tk10 ⟨yv, H10, I10, r10, acc, hD10, hz10, nx⟩ => ?_
        exact PySem.wpAny_with_toks tk10 (app_ok (X := X.blk s3 H3 scope ce fp) I10 hD10 hz10 r10 fun s11 I11 tk11 => fin I11 tk11 nx)
  exact codeAny_compStart_list loop (T.self X.A 0 _ _ _ st4 loop)
theorem pek_lc {elt tg iter : Expr} {ifs : List Expr} {scope : Scope} {own : List (Str × Nat)} {pos : Pos} {wi : TI} {g : TG} {tt : TT} {te : TE} (hc : X.calm = true) (hN : X.N.Nodup) (hi : PIk X tg iter wi) (ok : BlkOk X.N X.env.scope scope own)
    (hg : ∀ (s : Shared) (H : Hp) (C : Addr) (cl : List (Str × Addr)) (fp : List Addr), PG (X.blk s H scope (compEnvC scope cl C X.env) fp) tg g) (ht : ∀ (s : Shared) (H : Hp) (C : Addr) (cl : List (Str × Addr)) (fp : List Addr), PTs (X.blk s H scope (compEnvC scope cl C X.env) fp) ifs tt)
    (he : ∀ (s : Shared) (H : Hp) (C : Addr) (cl : List (Str × Addr)) (fp : List Addr), PE (X.blk s H scope (compEnvC scope cl C X.env) fp) elt te) (hs : ∀ x, foldedSetIterable iter X.env x = pure x := by intro _; rfl) :
    PEk X (.ListComp elt [⟨tg, iter, ifs, 0⟩] scope pos) (tLc wi g tt te (own.map (·.2))) := by
  refine ⟨fun pins s σ H Q I h => ?_⟩
  rw [eval_ListComp]
  refine lc_k hc hN I hi ok hg ht he hs h fun D C s' m H' I' q hn f k => ⟨m, hn, fun h'' sb => ?_⟩
  obtain ⟨f0, f1, f2, f3, f4, f5⟩ := f
  exact ⟨⟨.ref D, H', I'.turned (t' := s'.toks) (fun b o hb e => (sb.2 b hb).trans e) f0 f1 f3 f4 f5, rfl, q⟩, k.trans (Kc.same (t := s'.toks) sb f4 (Nat.le_refl _))⟩
end
end CL

set_option maxHeartbeats 1000000
namespace CL
open PySem PySem.Spec PyProof.Rows L2

section
variable {X : Cx} {x y : Str} {i : Nat} {e c : Expr} {te : TE} {tc : TT} {rest a b : List Stmt} {t u ta tb : TS} {p' pos : Pos} {st : Stmt}
/-! ### statements -/
theorem store_k {pins : List (Addr × Obj)} {s : Shared} {σ : L2.St} {H : Hp} {v : V} {w : Value} {E : Value → Shared → Prop} (hN : X.N.Nodup) (hi : X.N[i]? = some y) (hy : X.env.scope.names.lookup y = some .local) (I : L2.Inv X pins σ H s) (r : RelV v w) :
    wpAny (model X.prog X.w) X.A (storeName X.env y w) (fun _ s2 => L2.Inv X pins (σ.set i (some v)) H s2 ∧ Kc X s s2) E s := by
  obtain ⟨m, hn, _⟩ := id I.loc
  have hcls : (X.env.scope.kind == .class || (X.env.scope.kind == .module && X.env.locals != X.env.globals)) = false := by rw [I.ok.kind]; rfl
  refine wpAny_both (E' := fun _ _ => False) (store_ok (Q := fun _ s2 => L2.Inv X pins (σ.set i (some v)) H s2) I hN hi (.inl hy) r (fun _ I' => I') (.inr hy)) ?_
  exact wpAny_storeName_local hy hn (fun h' hn' sb => Kc.same (t := s.toks + 1) sb I.cne (Nat.le_succ _)) hcls
theorem psk_set (hN : X.N.Nodup) (hi : X.N[i]? = some y) (hy : X.env.scope.names.lookup y = some .local) (he : PEk X e te) (hs : swapsWith e (some (.Name y p')) pos.line X.env = pure false) : PSk X (.Assign [.Name y p'] e pos) (tAsg te (gName i)) := by
  refine ⟨fun pins s σ H D I h => ?_⟩
  refine wpAny_Assign_Name (thn (he.run pins s σ H _ I h) fun v s1 ⟨⟨w, H1, I1, r1, q1⟩, k1⟩ => ?_) hs
  exact thn (store_k hN hi hy I1 r1) fun _ s2 ⟨I2, k2⟩ => ⟨⟨_, H1, I2, q1⟩, fun _ => k1.trans k2⟩
theorem psk_setLc {py : Pos} {elt tg iter : Expr} {ifs : List Expr} {scope : Scope} {own : List (Str × Nat)} {pos spos : Pos} {wi : TI} {g : TG} {tt : TT} {te : TE} (hc : X.calm = true) (hN : X.N.Nodup) (hy : X.N[i]? = some y) (hyl : X.env.scope.names.lookup y = some .local)
    (hsw : swapsWith (.ListComp elt [⟨tg, iter, ifs, 0⟩] scope pos) (some (.Name y py)) spos.line X.env = pure true) (hi : PIk X tg iter wi) (ok : BlkOk X.N X.env.scope scope own)
    (hg : ∀ (s : Shared) (H : Hp) (C : Addr) (cl : List (Str × Addr)) (fp : List Addr), PG (X.blk s H scope (compEnvC scope cl C X.env) fp) tg g) (ht : ∀ (s : Shared) (H : Hp) (C : Addr) (cl : List (Str × Addr)) (fp : List Addr), PTs (X.blk s H scope (compEnvC scope cl C X.env) fp) ifs tt)
    (he : ∀ (s : Shared) (H : Hp) (C : Addr) (cl : List (Str × Addr)) (fp : List Addr), PE (X.blk s H scope (compEnvC scope cl C X.env) fp) elt te) (hs : ∀ x, foldedSetIterable iter X.env x = pure x := by intro _; rfl) :
    PSk X (.Assign [.Name y py] (.ListComp elt [⟨tg, iter, ifs, 0⟩] scope pos) spos) (tAsg (tLc wi g tt te (own.map (·.2))) (gName i)) := by
  refine ⟨fun pins s σ H D I h => ?_⟩
  rw [exec_Assign_Name_used _ _ _ _ hsw]
  refine wpAny_bind (wpAny_standAt (wpAny_bind ?_))
  show wpAny _ X.A (do let _ ← comprehension (.ListComp elt [⟨tg, iter, ifs, 0⟩] scope pos) scope X.env (firstIterPos [⟨tg, iter, ifs, 0⟩] pos) (newList []) false (eval iter X.env) (some (assign (.Name y py) X.env))) _ _ s
  have h : tLc wi g tt te (own.map (·.2)) σ H (fun x H1 => gName i x σ H1 D.nx) := h
  refine wpAny_bind (thn (lc_k (Qf := fun _ s' => SP X pins D .next s' ∧ Kc X s s') hc hN I hi ok hg ht he hs h fun L C s' m H' I' q hn f k => ?_) fun _ s' hq => wpAny_pure (wpAny_pure ⟨hq.1, fun _ => hq.2⟩))
  show wpAny _ _ (assign (.Name y py) X.env (.ref L)) _ _ _
  have h2 := wpAny_both (E' := fun _ _ => False) (store_ok2 (M := model X.prog X.w) (A := X.A) (E := X.xe) (Q := fun _ s2 => L2.Inv X pins (σ.set i (some (V.ref L))) H' s2 ∧ ∃ a, Heap.SameBut a s'.heap s2.heap ∧ (a = X.env.locals ∨ X.env.cells.lookup y = some a)) (v := V.ref L) I' hN hy (.inl hyl) rfl (fun s2 I2 q => ⟨I2, q⟩) (.inr hyl)) (store_k hN hy hyl I' (show RelV (V.ref L) (Value.ref L) from rfl))
  refine wpAny_assign_Name (thn h2 fun _ s2 ⟨⟨I2, a, sb, ha⟩, _, k2⟩ => ?_)
  obtain ⟨f0, f1, f2, f3, f4, f5⟩ := f
  have haC : C ≠ a := by
    rcases ha with z | z
    · rw [z]; exact f1
    · exact fun e => f4 y a z e.symm
  refine ⟨m, hn.sameBut sb haC, fun h3 sb3 => ?_⟩
  exact ⟨⟨_, H', I2.turned (t' := s2.toks) (fun b o hb e => (sb3.2 b hb).trans e) f0 f1 f3 f4 f5, q⟩, (k.trans k2).trans (Kc.same (t := s2.toks) sb3 f4 (Nat.le_refl _))⟩
theorem pssk_nil : PSsk X [] (fun D σ H => D.nx σ H) := ⟨fun pins s σ H D I h => wpAny_execs_nil ⟨⟨σ, H, I, h⟩, fun _ => Kc.refl⟩⟩
theorem pssk_cons (h1 : PSk X st t) (h2 : PSsk X rest u) : PSsk X (st :: rest) (tSeq t u) := by
  refine ⟨fun pins s σ H D I h => ?_⟩
  refine wpAny_execs_cons (thn (h1.run pins s σ H { D with nx := u D } I h) fun f s1 q => ?_)
  obtain ⟨q, k1⟩ := q
  cases f with
  | next =>
    obtain ⟨σ', H', I', q⟩ := q
    exact thn (h2.run pins s1 σ' H' D I' q) fun f s2 ⟨q2, k2⟩ => ⟨q2, fun e => (k1 rfl).trans (k2 e)⟩
  | ret v => exact ⟨q, fun e => nomatch e⟩
  | brk => exact ⟨q, fun e => nomatch e⟩
  | cont => exact ⟨q, fun e => nomatch e⟩
theorem psk_ret (h : PE X e te) : PSk X (.Return (some e) pos) (tRet te) := by
  refine ⟨fun pins s σ H D I q => ?_⟩
  refine wpAny_Return_some (thn (h.run pins s σ H D.rt I q) fun v s1 ⟨x, H1, I1, r1, q1⟩ => ?_)
  exact ⟨⟨x, σ, H1, I1, r1, q1⟩, fun e => nomatch e⟩
theorem psk_if (hc : PTk X c tc) (ha : PSsk X a t) (hb : PSsk X b u) : PSk X (.If c a b pos) (tIfS tc t u) := by
  refine ⟨fun pins s σ H D I h => ?_⟩
  refine wpAny_If (thn (hc.run pins s σ H _ I h) fun d s1 ⟨⟨H1, I1, q1⟩, k1⟩ => ?_)
  cases d with
  | true => exact thn (ha.run pins s1 σ H1 D I1 q1) fun f s2 ⟨q2, k2⟩ => ⟨q2, fun e => k1.trans (k2 e)⟩
  | false => exact thn (hb.run pins s1 σ H1 D I1 q1) fun f s2 ⟨q2, k2⟩ => ⟨q2, fun e => k1.trans (k2 e)⟩
theorem psq_k (h1 : PSk X st t) (h2 : PSq (Ck X x) X rest u) : PSq (Ck X x) X (st :: rest) (tSeq t u) := by
  refine ⟨fun pins s σ H D ck I h => ?_⟩
  refine wpAny_execs_cons (thn (h1.run pins s σ H { D with nx := u D } I h) fun f s1 q => ?_)
  obtain ⟨q, k1⟩ := q
  cases f with
  | next =>
    obtain ⟨σ', H', I', q⟩ := q
    exact h2.run pins s1 σ' H' D (ck.kc (k1 rfl)) I' q
  | ret v => exact q
  | brk => exact q
  | cont => exact q
/-! ### operations -/
def OpK (X : Cx) (f : Value → Value → Sem Value) (r : R2) : Prop :=
  ∀ (pins : List (Addr × Obj)) (s : Shared) (σ : L2.St) (H : Hp) (x y : V) (v u : Value) (Q : VK), L2.Inv X pins σ H s → RelV x v → RelV y u → r x y H Q → wpAny (model X.prog X.w) X.A (f v u) (EK X pins σ s Q) X.xe s
theorem pek_op {a b : Expr} {ta tb : TE} {op : Operator} {r : R2} (ho : OpK X (binaryOp op) r) (ha : PEk X a ta) (hb : PEk X b tb) : PEk X (.BinOp a op b pos) (tOp r ta tb) := by
  refine ⟨fun pins s σ H Q I h => ?_⟩
  refine wpAny_BinOp (thn (ha.run pins s σ H _ I h) fun v s1 ⟨⟨x, H1, I1, r1, q1⟩, k1⟩ => thn (hb.run pins s1 σ H1 _ I1 q1) fun u s2 ⟨⟨y, H2, I2, r2, q2⟩, k2⟩ => thn (ho pins s2 σ H2 x y v u _ I2 r1 r2 q2) fun w s3 ⟨q3, k3⟩ => ⟨q3, (k1.trans k2).trans k3⟩)
theorem ptk_cmp {a b : Expr} {ta tb : TE} {op : CmpOp} {r : R2} (ho : OpK X (compareOp op) r) (ha : PEk X a ta) (hb : PEk X b tb) (hm : behindInMarks op b = false) : PTk X (.Compare a [op] [b] pos) (tTest (tOp r ta tb)) := by
  refine ⟨fun pins s σ H Q I h => ?_⟩
  refine wpAny_isTrue_Compare1 (thn (ha.run pins s σ H _ I h) fun v s1 ⟨⟨x, H1, I1, r1, q1⟩, k1⟩ => thn (hb.run pins s1 σ H1 _ I1 q1) fun u s2 ⟨⟨y, H2, I2, r2, q2⟩, k2⟩ =>
    thn (ho pins s2 σ H2 x y v u _ I2 r1 r2 q2) fun c s3 ⟨⟨z, H3, I3, r3, k, e, q3⟩, k3⟩ => ?_) hm
  subst e
  cases r3
  exact wpAny_truthy_bool ⟨⟨H3, I3, q3⟩, (k1.trans k2).trans k3⟩
theorem ptk_val (h : PEk X e te) (he : ∀ whole, isTrue e X.env whole = (do let v ← whole; standAt e.pos; holding [v] (truthy v)) := by intro _; rfl) : PTk X e (tTest te) := by
  refine ⟨fun pins s σ H Q I hw => ?_⟩
  refine isTrue_plain (thn (h.run pins s σ H _ I hw) fun v s1 ⟨⟨x, H1, I1, r1, q1⟩, k1⟩ => ?_) (he _)
  obtain ⟨d, rfl, q⟩ := q1
  cases r1
  exact wpAny_truthy_bool ⟨⟨H1, I1, q⟩, k1⟩
/-! ### for x in text, x a cell -/
theorem ps1_forSC {iter : Expr} {body : List Stmt} {tb : TS} {px : Pos} (hp : PassesOwn (model X.prog X.w) X.A X.env X.xe) (hc : X.calm = true) (hN : X.N.Nodup) (hix : X.N[i]? = some x) (hx : X.env.scope.names.lookup x = some .cell) (fn : X.fn x = true) (he : PE X iter te) (hb : PSq (Ck X x) X body tb)
    (hs : ∀ x, foldedSetIterable iter X.env x = pure x := by intro _; rfl) : PS1 T1 X (.For (.Name x px) iter body [] pos) (tFor (iStr te) (gName i) tb) := by
  refine ⟨fun pins s σ H D h0 I h => ?_⟩
  have tkM : ∀ {α : Type} {k : Nat} {t : Sem α} {Q Q' : α → Shared → Prop} {E : Value → Shared → Prop} {s : Shared}, k ≤ s.toks → wpAny (model X.prog X.w) X.A t Q E s → (∀ a s, k ≤ s.toks → Q a s → Q' a s) → wpAny (model X.prog X.w) X.A t Q' E s := fun k h hq => wpAny_mono (PySem.wpAny_toks_of k h) (fun a s z => hq a s z.1 z.2) fun _ _ z => z.2
  obtain ⟨ca, hca⟩ := I.ok.has x (.inl hx)
  refine wpAny_For (tkM h0 (he.run pins s σ H _ I h) fun v s1 k1 ⟨y, H1, I1, r1, z, ez, q⟩ => ?_) hs
  subst ez
  obtain ⟨t, rfl⟩ := r1
  have go : ∀ (ty : String) (o : Obj), (ty = "str_ascii_iterator" ∨ ty = "str_iterator") → (s1.heap.push o).IsStrIter s1.heap.objs.size ty z t 0 →
      codeAny (model X.prog X.w) X.A (.forLoop (.Name x px) (.ref s1.heap.objs.size) body [] X.env) (fun r s' => match r with | .ok f => SP X pins D f s' | .error e => cameBackBy (model X.prog X.w) X.A X.env X.xe e s') { s1 with heap := s1.heap.push o } := by
    intro ty o hty hst
    have k2 : 1 ≤ ({ s1 with heap := s1.heap.push o } : Shared).toks := k1
    have T : Turn X.prog X.w X.K (.Name x px) (Its z) [s1.heap.objs.size] s1.heap.objs.size (fun i h => h.IsStrIter s1.heap.objs.size ty z t i) := turn_str _ z t ty hty
    obtain ⟨W, ⟨m0, w0⟩, turn⟩ := q
    have I2 : L2.Inv X pins σ H1 { s1 with heap := s1.heap.push o } := I1.kept fun b ob e => Heap.get?_push_of_some _ e
    have f2 : ∀ b ∈ [s1.heap.objs.size], FpOk X pins H1 b := fun b hb => by
      have e : b = s1.heap.objs.size := by simpa using hb
      subst e
      exact I1.fpOk (Nat.le_refl _) (I1.hok.fresh (Nat.le_refl _))
    generalize hfp : [s1.heap.objs.size] = fp at T f2
    generalize hit : s1.heap.objs.size = it at T hst ⊢
    have stat : ∀ {H' : Hp}, (∀ b ∈ fp, H' b = none) → ∀ b ∈ fp, FpOk X pins H' b := fun hn b hb => ⟨hn b hb, (f2 b hb).2⟩
    refine codeAny_forLoop_any (fun n s' => 1 ≤ s'.toks ∧ ∃ i σ' H', L2.Inv X pins σ' H' s' ∧ s'.heap.IsStrIter it ty z t i ∧ (∀ b ∈ fp, H' b = none) ∧ W i n σ' H') ?_ m0 ⟨k2, 0, σ, H1, I2, hst, fun b hb => (f2 b hb).1, w0⟩
    rintro n s3 ⟨k3, j, σ3, H3, I3, st3, fr3, w3⟩
    rcases turn j n σ3 H3 w3 with ⟨stop, qn⟩ | ⟨go, N, hNx, step⟩
    · refine wpAny_passesOwn hp (thn (T.done X rfl rfl rfl hc j pins s3 σ3 H3 X.xe I3 (stat fr3) st3 stop) fun r s4 ⟨hr, I4⟩ => ?_)
      subst hr
      exact wpAny_execs_nil ⟨σ3, H3, I4, qn⟩
    · refine wpAny_passesOwn hp (thn (wpAny_both (E' := fun _ _ => False) (T.item X rfl rfl rfl hc j pins s3 σ3 H3 X.xe I3 (stat fr3) st3 go) (next_raw hty st3 go)) fun r s4 ⟨⟨u, hr, h4⟩, cc, hr2, k4⟩ => ?_)
      subst hr
      injection hr2 with hu
      refine wpAny_passesOwn hp (tkM (Nat.le_of_eq k4.symm) h4 fun _ s5 k5 ⟨v5, H5, I5, r5, y5, st5, fr5⟩ => ?_)
      have I5' := I5.pinned (stat fr5) (T.obj _ _ st5)
      obtain ⟨v0, hcell⟩ := I5.cell x ca hca
      have raw : wpAny (model X.prog X.w) X.A (assign (.Name x px) X.env u) (fun _ s6 => Ck X x s6) (fun _ _ => False) s5 := by
        refine wpAny_assign_Name (wpAny_storeName_cell I5.ok.kind hx hca hcell fun h' hc' _ => ⟨ca, ⟨#[cc]⟩, s3.toks, hca, by rw [← hu]; exact hc', Nat.lt_of_lt_of_le Nat.zero_lt_one k3, Nat.lt_of_lt_of_le (Nat.lt_succ_self _) k5⟩)
      refine wpAny_passesOwn hp (thn (wpAny_both ((pg_name hN hix (.inr hx) (.inl fn)).run _ s5 σ3 H5 v5 u _ I5' r5 (step v5 H5 y5)) raw) fun _ s6 ⟨⟨σ6, H6, I6, q6⟩, T6⟩ => ?_)
      have k6 : 1 ≤ s6.toks := by obtain ⟨_, _, _, _, _, a, b⟩ := T6; exact Nat.lt_of_le_of_lt (Nat.zero_le _) b
      refine wpAny_passesOwn hp (tkM k6 (hb.run _ s6 σ6 H6 _ T6 I6 q6) fun f s7 k7 q7 => ?_)
      have again : ∀ {σ7 : L2.St} {H7 : Hp}, L2.Inv X (pins ++ pinsAt fp s5.heap) σ7 H7 s7 → N σ7 H7 → ∃ m, m < n ∧ 1 ≤ s7.toks ∧ ∃ i σ' H', L2.Inv X pins σ' H' s7 ∧ s7.heap.IsStrIter it ty z t i ∧ (∀ b ∈ fp, H' b = none) ∧ W i m σ' H' := fun {σ7 H7} I7 n7 => by
        obtain ⟨m', hm, w7⟩ := hNx σ7 H7 n7
        refine ⟨m', hm, k7, j + 1, σ7, H7, I7.unpinned, T.keep _ _ _ st5 fun b hb o e => (I7.pin (b, o) (List.mem_append_right _ (List.mem_append_right _ (mem_pinsAt hb e)))).1, fun b hb => ?_, w7⟩
        obtain ⟨o, e, d⟩ := T.obj _ _ st5 b hb
        exact (I7.pin (b, o) (List.mem_append_right _ (List.mem_append_right _ (mem_pinsAt hb e)))).2.1
      cases f with
      | next => obtain ⟨σ7, H7, I7, n7⟩ := q7; exact again I7 n7
      | cont => obtain ⟨σ7, H7, I7, n7⟩ := q7; exact again I7 n7
      | brk => obtain ⟨σ7, H7, I7, q7⟩ := q7; exact ⟨σ7, H7, I7.unpinned, q7⟩
      | ret v => obtain ⟨x7, σ7, H7, I7, r7, q7⟩ := q7; exact ⟨x7, σ7, H7, I7.unpinned, r7, q7⟩
  cases ha : z.cps.all (· < 128)
  · exact wpAny_pyIter_wide ha (go "str_iterator" _ (.inr rfl) ⟨_, Heap.get?_push_size _ rfl, rfl, rfl⟩)
  · exact wpAny_pyIter_ascii ha (go "str_ascii_iterator" _ (.inl rfl) ⟨_, Heap.get?_push_size _ rfl, rfl, rfl⟩)
end
end CL

set_option maxHeartbeats 1000000
namespace CL
open PySem PySem.Spec PyProof.Rows L2

def D.addLL : D → D → R D
  | .lst a, .lst b => if a.length + b.length ≤ lim then .ok (.lst (a ++ b)) else .bad
  | _, _ => .bad
def D.notinL : D → D → R D
  | d, .lst l => if d.plain && D.plains l && decide (d.dep ≤ 60) then .ok (.bl !(l.any fun z => z.eqv d)) else .bad
  | _, _ => .bad
section
variable {X : Cx} {M : Md} {W : WX} {H0 : Hp} {F0 : Addr → Prop} {O O1 O' Ol : List Nat} {g1 g2 : DEnv → Out} {f g : DEnv → R D} {e a b : Expr} {st : Stmt} {sts : List Stmt} {pos : Pos} {tg : Expr}
theorem kb (h : PEk X e (tD M W O f)) : PEk X e (tB M W O f) := pek_imp h fun σ H Q ⟨δ, F, I, w⟩ => ⟨δ, F, I, R.wp_mono w (fun d _ q v H' F' g r => q v H' F' g (Rep.b r)) fun _ q => q⟩
theorem k_var (i : Nat) {x : Str} (hO : (O.contains i) = false := by rfl) (hN : X.N[i]? = some x := by rfl) (hv : Vis X.env.scope x := by first | exact Or.inl rfl | exact Or.inr (Or.inl rfl) | exact Or.inr (Or.inr rfl)) (hd : (x == ("__debug__" : Str)) = false := by decide)
    (hcd : (x == ("__classdict__" : Str)) = false := by decide) : PEk X (.Name x pos) (tD M W O (getV i)) := (u_var i hO hN hv hd hcd).k
theorem ki_tup (h : PEk X e (tD M W O f)) : PIk X tg e (tI M W O (tupOf f)) := pik_imp (pik_tup h) fun σ H Q ⟨δ, F, I, w⟩ => by
  refine tE.one I w fun d v H1 F1 ed g1 r w1 => ?_
  cases d with
  | tup l => cases r with | tup h2 h3 => exact ⟨_, rfl, ⟨_, SqT.of h2⟩, w1 _ H1 F1 g1 (walkT h2 h3)⟩
  | _ => exact w1.elim
theorem k_lc {elt tg iter : Expr} {ifs : List Expr} {scope : Scope} {own : List (Str × Nat)} {vs : List Nat} {fi : DEnv → R (List D)} {gi : D → DEnv → R DEnv} {ft : DEnv → R Bool} {fe : DEnv → R D} (hc : X.calm = true) (hN : X.N.Nodup)
    (hi : PIk X tg iter (tI M W O fi)) (ok : BlkOk X.N X.env.scope scope own) (hv : own.map (·.2) = vs)
    (hg : ∀ (s : Shared) (H : Hp) (C : Addr) (cl : List (Str × Addr)) (fp : List Addr), PG (X.blk s H scope (compEnvC scope cl C X.env) fp) tg (tGt M O vs gi))
    (ht : ∀ (s : Shared) (H : Hp) (C : Addr) (cl : List (Str × Addr)) (fp : List Addr), PTs (X.blk s H scope (compEnvC scope cl C X.env) fp) ifs (tT M W0 O ft))
    (he : ∀ (s : Shared) (H : Hp) (C : Addr) (cl : List (Str × Addr)) (fp : List Addr), PE (X.blk s H scope (compEnvC scope cl C X.env) fp) elt (tD M W0 O fe))
    (hs : ∀ x, foldedSetIterable iter X.env x = pure x := by intro _; rfl) :
    PEk X (.ListComp elt [⟨tg, iter, ifs, 0⟩] scope pos) (tD M W O (lcV vs fi gi ft fe)) := pek_imp (pek_lc hc hN hi ok hg ht he hs) fun σ H Q h => by
  rw [hv]
  exact tLc_of h
theorem k_bin {op : Operator} {k : D → D → R D} (ho : OpK X (binaryOp op) (rD M k)) (ha : PEk X a (tB M W O f)) (hb : PEk X b (tB M W O g)) : PEk X (.BinOp a op b pos) (tD M W O (bin k f g)) := pek_imp (pek_op ho ha hb) fun _ _ _ h => tOp_of h
theorem kt_cmp {op : CmpOp} {k : D → D → R D} (ho : OpK X (compareOp op) (rD M k)) (ha : PEk X a (tB M W O f)) (hb : PEk X b (tB M W O g)) (hm : behindInMarks op b = false := by first | exact nomark _ | rfl) : PTk X (.Compare a [op] [b] pos) (tT M W O (tst (bin k f g))) :=
  ptk_imp (ptk_cmp ho ha hb hm) fun σ H Q h => by
    have := tTest_of h
    unfold tTest at this ⊢
    exact tOp_of (M := M) (W := W) (O := O) (Q := fun x H' => ∃ k, x = .bl k ∧ Q k H') this
theorem kt_val (h : PEk X e (tD M W O f)) (he : ∀ whole, isTrue e X.env whole = (do let v ← whole; standAt e.pos; holding [v] (truthy v)) := by intro _; rfl) : PTk X e (tT M W O (tst f)) :=
  ptk_imp (ptk_val h he) fun σ H Q h => tTest_of h
theorem ok_addLL : OpK X (binaryOp .Add) (rD M D.addLL) := by
  intro pins s σ H x y v u Q I rx ry ⟨F, a, b, dm, ra, rb, w⟩
  unfold D.addLL at w
  split at w
  · obtain ⟨p, vs, rfl, h1, r1⟩ := ra
    obtain ⟨q, us, rfl, h2, r2⟩ := rb
    split at w
    · rename_i h
      refine wpAny_both (E' := fun _ _ => False) (op_cat pins s σ H _ _ v u Q I rx ry ⟨p, q, vs, us, rfl, rfl, h1, h2, by rw [r1.length, r2.length, lim_eq]; exact h, fun z hz => ?_⟩) ?_
      · have g := Grow.newL (o := .lst (vs ++ us)) dm hz
        exact w _ _ _ g (.lst (.inr rfl) upd_same ((r1.append r2).grow g))
      · cases rx
        cases ry
        obtain ⟨z, its, n, r, hl, e⟩ := I.lstM h1
        obtain ⟨z2, its2, n2, r', hl2, e2⟩ := I.lstM h2
        have hz : vs.length + us.length ≤ sizeLine := by rw [r1.length, r2.length, lim_eq]; exact h
        refine PySem.P.add_list e e2 (Kc.push (Nat.le_refl _)) (by rw [List.size_toArray, List.size_toArray]; have := r.length; have := r'.length; omega)
    · exact w.elim
  · exact w.elim
theorem ok_notinL (hu : X.A.units + 64 < cLine) : OpK X (compareOp .NotIn) (rD M D.notinL) := by
  intro pins s σ H x y v u Q I rx ry ⟨F, a, b, dm, ra, rb, w⟩
  unfold D.notinL at w
  split at w
  · rename_i l
    split at w
    · rename_i h
      simp only [Bool.and_eq_true, decide_eq_true_eq] at h
      obtain ⟨da, ca⟩ := ra.dp (K := X.K) h.1.1
      obtain ⟨db, cb⟩ := rb.dp (K := X.K) (by simpa [D.plain] using h.1.2)
      obtain ⟨as, r1⟩ := Dp.reads I _ x v da rx
      obtain ⟨bs, r2⟩ := Dp.reads I _ y u db ry
      have e := D.dep_py a
      refine SeqAt.notIn_list_reads (xs := D.pys l) r2 r1 (by simpa [D.py, PyData.canLay0] using cb) ca (by rw [e]; omega) ⟨⟨.bl _, H, I, rfl, ?_⟩, Kc.refl⟩
      rw [eqv_any _ h.1.1 _ h.1.2]
      exact w _ H F (Grow.refl dm) (.bl _)
    · exact w.elim
  · exact w.elim
/-! ### statements -/
theorem sk_set (i : Nat) {x : Str} {p' : Pos} (hN : X.N.Nodup) (h : PEk X e (tD M W O f)) (hO : O' = O.filter (· != i) := by rfl) (hi : X.N[i]? = some x := by rfl) (hx : X.env.scope.names.lookup x = some .local := by rfl) (hs : swapsWith e (some (.Name x p')) pos.line X.env = pure false := by rfl) :
    PSk X (.Assign [.Name x p'] e pos) (tS M W H0 F0 O O' Ol fun δ => inS δ (f δ) fun d => .nxt (δ.set i (some d))) := psk_imp (psk_set hN hi hx h hs) fun E σ H q => set_imp hO q
theorem sk_setLc (i : Nat) {x : Str} {elt tg iter : Expr} {ifs : List Expr} {scope : Scope} {own : List (Str × Nat)} {vs : List Nat} {p' pc : Pos} {fi : DEnv → R (List D)} {gi : D → DEnv → R DEnv} {ft : DEnv → R Bool} {fe : DEnv → R D} (hc : X.calm = true) (hN : X.N.Nodup)
    (hi : PIk X tg iter (tI M W O fi)) (ok : BlkOk X.N X.env.scope scope own) (hv : own.map (·.2) = vs)
    (hg : ∀ (s : Shared) (H : Hp) (C : Addr) (cl : List (Str × Addr)) (fp : List Addr), PG (X.blk s H scope (compEnvC scope cl C X.env) fp) tg (tGt M O vs gi))
    (ht : ∀ (s : Shared) (H : Hp) (C : Addr) (cl : List (Str × Addr)) (fp : List Addr), PTs (X.blk s H scope (compEnvC scope cl C X.env) fp) ifs (tT M W0 O ft))
    (he : ∀ (s : Shared) (H : Hp) (C : Addr) (cl : List (Str × Addr)) (fp : List Addr), PE (X.blk s H scope (compEnvC scope cl C X.env) fp) elt (tD M W0 O fe))
    (hO : O' = O.filter (· != i) := by rfl) (hx : X.N[i]? = some x := by rfl) (hl : X.env.scope.names.lookup x = some .local := by rfl) (hk : X.env.scope.kind = .function := by rfl) (hln : (p'.line == pc.line) = true := by rfl) (hnm : (scope.names.any fun (n, k) => n == x && (k == .local || k == .cell)) = false := by rfl)
    (hs : ∀ x, foldedSetIterable iter X.env x = pure x := by intro _; rfl) :
    PSk X (.Assign [.Name x p'] (.ListComp elt [⟨tg, iter, ifs, 0⟩] scope pc) pos) (tS M W H0 F0 O O' Ol fun δ => inS δ (lcV vs fi gi ft fe δ) fun d => .nxt (δ.set i (some d))) :=
  psk_imp (psk_setLc hc hN hx hl (sw_true hk hl hln hnm) hi ok hg ht he hs) fun E σ H ⟨δ, F, I, w⟩ => by
    rw [hv]
    refine tLc_of (tE.inS I w fun d v H' F' _ g r w' => ?_)
    subst hO
    exact w' _ H' F' ((I.grow g).set r)
theorem sk_if {c : Expr} {a b : List Stmt} {ft : DEnv → R Bool} (hc : PTk X c (tT M W O ft)) (ha : PSsk X a (tS M W H0 F0 O O' Ol g1)) (hb : PSsk X b (tS M W H0 F0 O O' Ol g2)) : PSk X (.If c a b pos) (tS M W H0 F0 O O' Ol fun δ => inT δ (ft δ) fun c => if c then g1 δ else g2 δ) := psk_imp (psk_if hc ha hb) fun E σ H ⟨δ, F, I, w⟩ =>
  tT.inT I w fun c H' F' _ g w' => by
    cases c with
    | true => exact ⟨δ, F', I.grow g, w'⟩
    | false => exact ⟨δ, F', I.grow g, w'⟩
theorem sk_nil : PSsk X [] (tS M W H0 F0 O O Ol Out.nxt) := pssk_imp pssk_nil fun E σ H ⟨δ, F, I, w⟩ => w σ H F I
theorem sk_one (h : PSk X st (tS M W H0 F0 O O' Ol g1)) : PSsk X [st] (tS M W H0 F0 O O' Ol g1) := by
  refine ⟨fun pins s σ H D I q => wpAny_execs_cons (thn (h.run pins s σ H D I q) fun f s1 q => ?_)⟩
  cases f with
  | next => exact wpAny_execs_nil q
  | ret v => exact q
  | brk => exact q
  | cont => exact q
theorem sk_ret (h : PE X e (tD M W O f)) : PSk X (.Return (some e) pos) (tS M W H0 F0 O O' Ol fun δ => inS δ (f δ) fun d => .ret d) := psk_imp (psk_ret h) fun E σ H ⟨δ, F, I, w⟩ =>
  tE.inS I w fun d v H' F' _ g r w' => w' v H' F' (I.g0.trans g) r
theorem qk_cons {x : Str} (h1 : PSk X st (tS M W H0 F0 O O1 Ol g1)) (h2 : PSq (Ck X x) X sts (tS M W H0 F0 O1 O' Ol g2)) : PSq (Ck X x) X (st :: sts) (tS M W H0 F0 O O' Ol (seqS g1 g2)) := psq_imp (psq_k h1 h2) fun E σ H q => seq_imp q
/-- y = e at the end, e wants the known start -/
theorem qk_last (i : Nat) {P : Shared → Prop} {y : Str} {p' : Pos} (hN : X.N.Nodup) (h : PEq P X e (tD M W O f)) (hO : O' = O.filter (· != i) := by rfl) (hi : X.N[i]? = some y := by rfl) (hx : Loc X.env.scope y := by first | exact Or.inl rfl | exact Or.inr rfl)
    (hs : swapsWith e (some (.Name y p')) pos.line X.env = pure false := by rfl) (hf : X.fn y = true ∨ X.env.scope.names.lookup y = some .local := by first | exact .inl rfl | exact .inr rfl) : PSq P X [.Assign [.Name y p'] e pos] (tS M W H0 F0 O O' Ol (fun δ => inS δ (f δ) fun d => .nxt (δ.set i (some d)))) := by
  refine ⟨fun pins s σ H D T I q => ?_⟩
  have q := set_imp hO q
  refine wpAny_execs_cons (wpAny_Assign_Name (thn (h.run pins s σ H _ T I q) fun v s1 ⟨w, H1, I1, r1, q1⟩ => ?_) hs)
  exact store_ok I1 hN hi hx r1 (fun s2 I2 => wpAny_execs_nil ⟨_, H1, I2, q1⟩) hf
theorem qs_forSC (i : Nat) {x : Str} {px : Pos} {iter : Expr} {body : List Stmt} {gb : DEnv → Out} (hp : PassesOwn (model X.prog X.w) X.A X.env X.xe) (hc : X.calm = true) (hN : X.N.Nodup) (h : PE X iter (tD M W O f)) (hb : ∀ H0 F0, PSq (Ck X x) X body (tS M W H0 F0 O O O gb))
    (hO : O.contains i = false := by rfl) (hi : X.N[i]? = some x := by rfl) (hx : X.env.scope.names.lookup x = some .cell := by rfl) (fn : X.fn x = true := by rfl) (hs : ∀ x, foldedSetIterable iter X.env x = pure x := by intro _; rfl) :
    PS1 T1 X (.For (.Name x px) iter body [] pos) (tS M W H0 F0 O O Ol (forS (strOf f) (put i) gb)) := ps1_imp (ps1_forSC hp hc hN hi hx fn h (psq_ex hb) hs) fun E σ H q => by
  obtain ⟨δ, F, I, w⟩ := for_imp (vs := [i]) q
  refine tE.one I w fun d v H1 F1 ed g1 r w1 => ?_
  cases d with
  | str l =>
    cases r with
    | str ok =>
      obtain ⟨Wv, w0, turn⟩ := w1 _ H1 F1 g1 (walkS ok)
      refine ⟨_, rfl, Wv, w0, fun j m σ' H' hw => (turn j m σ' H' hw).imp (fun z => z) fun ⟨go, N, hNx, step⟩ => ⟨go, N, hNx, fun x H'' y => ?_⟩⟩
      obtain ⟨δ', F', d', I', r', w'⟩ := step x H'' y
      have I2 := I'.set (i := i) r'
      rw [filter_ne hO] at I2
      refine w' _ I2 wipe_set fun j hj => ?_
      have ne : j ≠ i := fun z => by subst z; simp [hj] at hO
      exact ⟨by simpa using ne, List.getElem?_set_ne (Ne.symm ne)⟩
  | _ => exact w1.elim
end
/-! ### a def with cells begins with a token out -/
theorem newEnvT {M : Model} {A : Around} {E : Value → Shared → Prop} {s : Shared} {scope : Scope} {globals : Addr} {n : Str} {v : Value} {binds : List (Str × Value)} {qual : Str} {func : Option Addr} {code : Value} {builtins : Addr}
    (hk : scope.kind = .function) (hn : scope.names.lookup n = some .local)
    (hkind : ∀ x ∈ binds, scope.names.lookup x.1 = some .local ∨ (scope.names.lookup x.1 = some .cell ∧ ((cellsFrom (s.heap.objs.size + 1) scope.names []).lookup x.1).isSome = true)) :
    wpAny M A (newFunctionEnv scope globals [] ((n, v) :: binds) qual func code none builtins) (fun _ s' => 1 ≤ s'.toks) E s := by
  simp only [newFunctionEnv, Option.isSome_none, Bool.false_eq_true, if_false]
  refine wpAny_bind (wpAny_alloc ?_)
  refine wpAny_bind (wpAny_layCells _ (fun name kind cells => by cases hkc : kind == NameKind.cell <;> simp [hkc]) _ _ _ _ ?_)
  have ok := cellsFrom_ok scope.names (s.heap.push { cls := .type "frame", data := .dict #[] }) (s.heap.objs.size + 1) [] ⟨fun _ _ hm => (nomatch hm), List.Pairwise.nil⟩ (by rw [Heap.size_push]; exact Nat.le_refl _)
  rw [Heap.size_push] at ok
  rw [show ({ s with heap := s.heap.push { cls := .type "frame", data := .dict #[] } } : Shared).heap.objs.size = s.heap.objs.size + 1 from Heap.size_push ..]
  rw [List.forIn_cons]
  have x0 : InCallC s (newEnv scope s.heap.objs.size globals (cellsFrom (s.heap.objs.size + 1) scope.names []) qual func code none builtins).locals (fun _ => none) (newEnv scope s.heap.objs.size globals (cellsFrom (s.heap.objs.size + 1) scope.names []) qual func code none builtins).cells (fun _ => none) { s with heap := pushCells (s.heap.push { cls := .type "frame", data := .dict #[] }) scope.names } :=
    ⟨⟨⟨_, _, rfl⟩, (Heap.Ns.new s.heap (.type "frame")).keeps (pushCells_keeps _ _), fun b o e => pushCells_keeps _ _ b o (Heap.get?_push_of_some _ e), Nat.le_refl _⟩,
      fun n c hc => (ok.empty n c (mem_of_lookup hc)).1, ok.apart, fun n c hm => (ok.empty n c hm).2⟩
  refine wpAny_bind (wpAny_bind (wpAny_bind ?_))
  refine wpAny_mono (wpAny_both (E' := fun _ _ => False) (stLC (Q := fun _ s' => ∃ m, InCallC s _ m _ _ s') x0 hk hn fun s' x' => ⟨_, x'⟩) (wpAny_storeName_local (Q := fun _ s' => 1 ≤ s'.toks) hn x0.toInCall.ns (fun h' _ _ => Nat.succ_le_succ (Nat.zero_le _)) (by show (scope.kind == .class || (scope.kind == .module && _)) = false; rw [hk]; rfl))) (fun _ s1 ⟨⟨m, x1⟩, t1⟩ => ?_) fun _ _ z => z
  refine wpAny_pure ?_
  refine PySem.wpAny_with_toks t1 (wpAny_bindParams (s₀ := s) (env := newEnv scope s.heap.objs.size globals (cellsFrom (s.heap.objs.size + 1) scope.names []) qual func code none builtins) _ (fun _ _ _ => rfl) hk binds _ _ _ _ x1 hkind fun s' x h => wpAny_pure h)
theorem fn_mkTC {M : Md} {P : Program} {w : World} {base : Heap} {x qual n0 : Str} {st : Stmt} {fa : Addr} {fd : FuncData} {N ps : List Str} {k : Nat} {g : DEnv → Out} {O' : List Nat} (hmg : M.mg x = some (.ref fa)) (F : Fun M.K x qual st fa fd) (S : FnScope N ps (defScope st))
    (hb : Binds M.K fd ps []) (hn0 : ps.head? = some n0) (hl0 : (defScope st).names.lookup n0 = some .local)
    (body : ∀ (cdv : Value) (A : Around) (outer : List Env) (s : Shared) (H : Hp) (E : XK), Room k (A.deeper (envOfC qual (defScope st) s.heap.objs.size fa cdv)) → ∀ (F0 : Addr → Prop),
      PSq T1 (cxOf (L2.CX P w) P w M.K M.mg base N qual (defScope st) fa cdv A outer s H E) (defBody st) (tS M (fun cls d _ H => E cls d H) H F0 [] O' [] g)) :
    FnD P w M base (k + 1) x (runF ps.length N.length g) := by
  have len : ∀ vs H Q E, spD M (runF ps.length N.length g) vs H Q E → vs.length = ps.length := fun vs H Q E ⟨F, ds, _, r, w⟩ => by
    unfold runF at w
    split at w
    · rename_i h; rw [r.length]; exact h
    · exact w.elim
  refine ⟨fa, fd, ps, hmg, F.kp, hb, len, fun A outer s H args us vs Q E hr e0 hbt r hsp => ?_⟩
  obtain ⟨oc, od, kV, doc, pm, an, cdv, ct, osl, rfl, lk, hcd⟩ := F.ex
  have hl := len _ _ _ _ hsp
  have hul : us.length = ps.length := by rw [← r.length, hl]
  have KX : M.K.In s.heap := e0.mod.kin.keeps fun b o e => (e0.bs b o e).1
  have nlim : s.heap.NoLimit := e0.mod.nolimit.keeps fun b o e => (e0.bs b o e).1
  have hkind : ∀ y ∈ ps.zip us, (defScope st).names.lookup y.1 = some .local ∨ ((defScope st).names.lookup y.1 = some .cell ∧ ((cellsFrom (s.heap.objs.size + 1) (defScope st).names []).lookup y.1).isSome = true) := fun ⟨n, v⟩ hy => by
    rcases S.par n (List.of_mem_zip hy).1 with q | q
    · exact .inl q
    · exact .inr ⟨q, PySem.W.cellsFrom_some _ _ _ (.inl q)⟩
  refine codeAny_call_function hr.depth (KX _ _ lk) rfl S.co S.gen rfl (PySem.W.codeRec_of KX hcd) (hbt _ _ _ _ ?_)
  have raw : wpAny (model P w) A.in1 (newFunctionEnv (defScope st) mainGlobals [] (ps.zip us) (qual ++ ".<locals>.") (some fa) cdv none builtinsNs) (fun _ s' => 1 ≤ s'.toks) (fun _ _ => False) s := by
    cases ps with
    | nil => cases hn0
    | cons n1 ps' =>
      cases us with
      | nil => cases hul
      | cons u1 us' =>
        have e1 : n1 = n0 := Option.some.inj hn0
        subst e1
        exact newEnvT S.kind hl0 fun y hy => hkind y (List.mem_cons_of_mem _ hy)
  refine wpAny_mono (wpAny_both (wpAny_newFunctionEnv_cells (Q := fun env s' => env = _ ∧ InCallC s env.locals _ env.cells _ s') S.kind hkind fun env he s1 xx => ⟨he, xx⟩) raw) (fun env s1 ⟨⟨he, xx⟩, t1⟩ => ?_) fun _ _ z => z
  subst he
  refine ⟨nlim.keeps xx.toInCall.keep, codeAny_func ?_⟩
  obtain ⟨F1, ds, dm, rp, w1⟩ := hsp
  have I : L2.Inv (cxOf (L2.CX P w) P w M.K M.mg base N qual (defScope st) fa cdv A outer s H E) [] (start N vs) H s1 := inv_start S hr.hd e0 hl r xx
  have hq : tS M (fun cls d _ H => E cls d H) H F1 [] O' [] g { nx := fun _ H' => Q .non H', rt := Q } (start N vs) H := by
    unfold runF at w1
    split at w1
    · refine ⟨startD N.length ds, F1, ⟨einv_start dm rp, fun _ _ e => e, fun _ e => e, fun _ e => .inl e, fun i d p h => (nomatch h)⟩, ?_⟩
      cases eo : g (startD N.length ds) with
      | nxt δ' => rw [eo] at w1; exact fun σ' H' F' I => w1 .non H' F' I.g0 .non
      | ret d => rw [eo] at w1; exact w1
      | brk δ' => rw [eo] at w1; exact w1.elim
      | cnt δ' => rw [eo] at w1; exact w1.elim
      | exc n δ' => rw [eo] at w1; exact fun σ' H' F' I => w1 H' F' I.g0
      | bad => rw [eo] at w1; exact w1.elim
    · exact w1.elim
  refine wpAny_mono ((body cdv A outer s H E (hr.deeper _) F1).run [] s1 (start N vs) H _ t1 I hq) (fun fl s' hs => ?_) fun e s' hs => hs
  have fin : ∀ {σ' : L2.St} {H' : Hp} {v : V} {u : Value}, L2.Inv (cxOf (L2.CX P w) P w M.K M.mg base N qual (defScope st) fa cdv A outer s H E) [] σ' H' s' → RelV v u → Q v H' → CE outer P w H s Q u s' :=
    fun {σ' H' v u} J rv q => ⟨v, H', J.os, J.bare, J.base, J.hok, rv, q⟩
  cases fl with
  | ret u =>
    obtain ⟨v, σ', H', J, rv, q⟩ := hs
    exact fin J rv q
  | next =>
    obtain ⟨σ', H', J, q⟩ := hs
    exact fin (v := V.non) (u := Value.none) J rfl q
  | brk =>
    obtain ⟨_, _, _, q⟩ := hs
    exact False.elim q
  | cont =>
    obtain ⟨_, _, _, q⟩ := hs
    exact False.elim q
end CL

set_option maxHeartbeats 3200000
namespace CL
open PySem PySem.Spec PyProof.Rows L2

/-! ### sets of texts that can be walked; Vp: what is true of the members' values -/
def keyS (e : Int × Value) : Str := match e.2 with | .str k _ => k | _ => ⟨#[]⟩
def GoodS (P : Program) (w : World) (Vp : Value → Prop) (e : Int × Value) : Prop := (∃ k tk, e.2 = Value.str k tk ∧ e.1 = (PySem.strKind P w).hash k) ∧ Vp e.2
def SetS (P : Program) (w : World) (Vp : Value → Prop) (h : Heap) (a : Addr) (S : Str → Bool) (n : Nat) : Prop :=
  ∃ o es ep t, h.get? a = some o ∧ o.ExactSet ∧ o.data = .set es ep t ∧ (∀ e ∈ es.toList, GoodS P w Vp e) ∧ (es.toList.map keyS).Nodup ∧ (∀ k, S k = true ↔ k ∈ es.toList.map keyS) ∧
    es.size < scanBound ∧ t.fits es.size = true ∧ es.size = n ∧ Ris t.place.toList ∧ (w.params.followText "set-order" = true ∨ t.led = true)
section
variable {P : Program} {w : World} {Vp : Value → Prop} {h h' : Heap} {a : Addr} {S : Str → Bool} {n : Nat}
theorem SetS.at (R : SetS P w Vp h a S n) (k : ∀ o, h.get? a = some o → h'.get? a = some o) : SetS P w Vp h' a S n := by
  obtain ⟨o, es, ep, t, ho, r⟩ := R
  exact ⟨o, es, ep, t, k o ho, r⟩
theorem SetS.congr {S' : Str → Bool} (R : SetS P w Vp h a S n) (e : ∀ k, S' k = S k) : SetS P w Vp h a S' n := by
  have q : S' = S := funext e
  rw [q]; exact R
theorem goodS_elems {l : List (Int × Value)} (g : ∀ e ∈ l, GoodS P w Vp e) : ElemsOf (PySem.strKind P w) l := fun e he => by
  obtain ⟨⟨k, tk, h1, h2⟩, _⟩ := g e he
  exact ⟨⟨k, by rw [h1]; exact strIs k tk, h2⟩, by rw [h1] <;> rfl⟩
theorem goodS_is {e : Int × Value} (g : GoodS P w Vp e) (k : Str) : (PySem.strKind P w).is k e.2 = true ↔ keyS e = k := by
  obtain ⟨⟨k0, tk, h1, _⟩, _⟩ := g
  unfold keyS
  rw [h1]
  constructor
  · intro h
    obtain ⟨t, e⟩ := Value.isStrOf_shape (x := k) (v := .str k0 tk) h
    injection e
  · intro h
    subst h
    exact strIs _ _
theorem goodS_mem {l : List (Int × Value)} (g : ∀ e ∈ l, GoodS P w Vp e) (k : Str) : k ∈ l.map keyS ↔ ∃ e ∈ l, (PySem.strKind P w).is k e.2 = true := by
  rw [List.mem_map]
  constructor
  · rintro ⟨e, he, q⟩
    exact ⟨e, he, (goodS_is (g e he) k).2 q⟩
  · rintro ⟨e, he, q⟩
    exact ⟨e, he, (goodS_is (g e he) k).1 q⟩
end
section
variable {P : Program} {w : World} {A : Around} {E : Value → Shared → Prop} {s : Shared} {a : Addr} {S : Str → Bool} {n : Nat} {Vp : Value → Prop}
theorem setS_add_tail {g : Bool → Sem Unit} (hg : ∀ (b : Bool) (s₁ : Shared) (Q' : Unit → Shared → Prop), Q' () s₁ → wpAny (model P w) A (g b) Q' E s₁)
    {o : Obj} {es : Array (Int × Value)} {ep : Nat} {t : SetTable} (ho : s.heap.get? a = some o) (hex : o.ExactSet) (hd : o.data = .set es ep t)
    {es1 : Array (Int × Value)} {t2 : SetTable} {S' : Str → Bool} (g1 : ∀ e ∈ es1.toList, GoodS P w Vp e) (nd1 : (es1.toList.map keyS).Nodup) (m1 : ∀ k, S' k = true ↔ k ∈ es1.toList.map keyS)
    (hb1 : es1.size < scanBound) (hf2 : t2.fits es1.size = true) (hr : Ris t2.place.toList) (hl : w.params.followText "set-order" = true ∨ t2.led = true) {wasDummy : Bool} {R : Option Bool → Shared → Prop}
    (hR : ∀ h', Heap.SameBut a s.heap h' → SetS P w Vp h' a S' es1.size → R (some true) { s with heap := h' }) :
    wpAny (model P w) A (do
        storeSet a es1 t2
        if (!wasDummy && t2.tooFull) = true then do
            g (relayAll t2 es1 (SetTable.grown es1.size)).2.2
            storeSet a (relayAll t2 es1 (SetTable.grown es1.size)).1 (relayAll t2 es1 (SetTable.grown es1.size)).2.1
            pure (some true)
          else pure (some true)) R E s := by
  refine wpAny_bind (wpAny_storeSet_of ho hd ?_ (fits_of_scanBound hb1))
  have ho1 := store_at (es' := es1) (t' := t2) ho hd
  have sb1 := Heap.SameBut.update s.heap a (Obj.putSet es1 t2)
  split
  · have pm := relayAll_perm t2 es1 (SetTable.grown es1.size)
    have hf3 := relayAll_fits t2 es1 (SetTable.grown es1.size)
    have hr3 := relayAll_ris t2 es1 (SetTable.grown es1.size)
    have hl3 := relayAll_led t2 es1 (SetTable.grown es1.size)
    generalize relayAll t2 es1 (SetTable.grown es1.size) = Z at pm hf3 hr3 hl3 ⊢
    obtain ⟨es2, t3, gave⟩ := Z
    dsimp only at pm hf3 hr3 hl3 ⊢
    have hsz : es2.size = es1.size := by rw [← Array.length_toList, pm.length_eq, Array.length_toList]
    have hb2 : es2.size < scanBound := by rw [hsz]; exact hb1
    refine wpAny_bind (hg _ _ _ ?_)
    refine wpAny_bind (wpAny_storeSet_of ho1 rfl ?_ (fits_of_scanBound hb2))
    have ho2 := store_at (es' := es2) (t' := t3) ho1 rfl
    refine wpAny_pure (hR _ (sb1.trans (Heap.SameBut.update _ a _)) ?_)
    exact ⟨_, es2, _, t3, ho2, hex, rfl, fun e he => g1 e (pm.mem_iff.mp he), (pm.map keyS).nodup_iff.mpr nd1, fun k => (m1 k).trans (pm.map keyS).mem_iff.symm, hb2, hf3, hsz, hr3,
      hl.imp id fun z => by rw [hl3]; exact z⟩
  · exact wpAny_pure (hR _ sb1 ⟨_, es1, _, t2, ho1, hex, rfl, g1, nd1, m1, hb1, hf2, rfl, hr, hl⟩)
theorem setS_add_hashed {k : Str} {tk : Tok} {Q : Bool → Shared → Prop} (R : SetS P w Vp s.heap a S n) (room : n + 1 < scanBound) (hvp : Vp (.str k tk))
    (hQ : ∀ h', Heap.SameBut a s.heap h' → SetS P w Vp h' a (fun j => S j || decide (j = k)) (if S k = true then n else n + 1) → Q (!S k) { s with heap := h' }) :
    wpAny (model P w) A (setAddHashed a (.str k tk) ((PySem.strKind P w).hash k)) Q E s := by
  obtain ⟨o, es, ep, t, ho, hex, hd, g, nd, hm, hb, hf, hn, hr, hl⟩ := R
  have hkey : (PySem.strKind P w).is k (.str k tk) = true := strIs k tk
  have hsc : (Value.str k tk).scannable = true := rfl
  have hel : ElemsOf (PySem.strKind P w) es.toList := goodS_elems g
  unfold setAddHashed setAddHashedIn
  refine wpAny_holding (wpAny_bind (wpAny_setState_of ho hd hf ?_))
  dsimp only
  rw [byScan_of hsc hb hel]
  simp only [↓reduceIte]
  unfold setAddByScan
  refine wpAny_bind ?_
  refine wpAny_bind (wpAny_rule ?_)
  refine wpAny_bind (wpAny_setScan_of hkey ho hd hf hel ?_)
  cases hfi : List.findIdx? (fun e => (PySem.strKind P w).is k e.2) es.toList with
  | some j =>
    dsimp only
    obtain ⟨hj, pj, _⟩ := List.findIdx?_eq_some_iff_getElem.mp hfi
    have hSk : S k = true := (hm k).2 ((goodS_mem (P := P) (w := w) g k).2 ⟨es.toList[j], List.getElem_mem hj, pj⟩)
    refine wpAny_pure (wpAny_pure ?_)
    have q := hQ s.heap (Heap.SameBut.refl a s.heap) ⟨o, es, ep, t, ho, hex, hd, g, nd, fun i => by
      rw [Bool.or_eq_true, decide_eq_true_eq, ← hm i]
      exact ⟨fun z => z.elim id (fun e => e ▸ hSk), .inl⟩, hb, hf, by rw [if_pos hSk]; exact hn, hr, hl⟩
    rw [hSk] at q
    exact q
  | none =>
    dsimp only
    have hnk : k ∉ es.toList.map keyS := fun z => by
      obtain ⟨e, he, q⟩ := (goodS_mem (P := P) (w := w) g k).1 z
      have c := List.findIdx?_eq_none_iff.mp hfi e he
      rw [q] at c
      cases c
    have hSk : S k = false := by
      cases q : S k with
      | false => rfl
      | true => exact absurd ((hm k).1 q) hnk
    have hgw : ∀ (b : Bool) {s₁ : Shared} {Q' : Unit → Shared → Prop}, Q' () s₁ → wpAny (model P w) A (match b with | true => rule "set.scan.the-table-gave-way" | false => pure ()) Q' E s₁ :=
      fun b s₁ Q' q => by cases b <;> first | exact wpAny_pure q | exact wpAny_rule q
    have pm := layNew_perm t es ((PySem.strKind P w).hash k) (.str k tk)
    have hf1 := layNew_fits t es ((PySem.strKind P w).hash k) (.str k tk)
    have hr1 := layNew_ris t es ((PySem.strKind P w).hash k) (.str k tk) hr
    have hl1 := layNew_led t es ((PySem.strKind P w).hash k) (.str k tk)
    generalize layNew t es ((PySem.strKind P w).hash k) (.str k tk) = Z at pm hf1 hr1 hl1 ⊢
    obtain ⟨es1, t1, wasDummy, gave⟩ := Z
    dsimp only at pm hf1 hr1 hl1 ⊢
    rw [Array.toList_push] at pm
    have pc : es1.toList.Perm (((PySem.strKind P w).hash k, Value.str k tk) :: es.toList) := pm.trans (List.perm_append_singleton _ _)
    have pk : (es1.toList.map keyS).Perm (k :: es.toList.map keyS) := pc.map keyS
    have g1 : ∀ e ∈ es1.toList, GoodS P w Vp e := fun e he => by
      rcases List.mem_cons.mp (pc.mem_iff.mp he) with z | z
      · rw [z]; exact ⟨⟨k, tk, rfl, rfl⟩, hvp⟩
      · exact g e z
    have nd1 : (es1.toList.map keyS).Nodup := pk.nodup_iff.mpr (List.nodup_cons.mpr ⟨hnk, nd⟩)
    have m1 : ∀ i, (S i || decide (i = k)) = true ↔ i ∈ es1.toList.map keyS := fun i => by
      rw [Bool.or_eq_true, decide_eq_true_eq, hm i, pk.mem_iff, List.mem_cons]
      exact Or.comm
    have hsz : es1.size = n + 1 := by rw [← Array.length_toList, pc.length_eq, List.length_cons, Array.length_toList, hn]
    have hb1 : es1.size < scanBound := by rw [hsz]; exact room
    have hled : w.params.followText "set-order" = true ∨ t1.led = true := hl.imp id fun z => by rw [hl1]; exact z
    have fin : ∀ h', Heap.SameBut a s.heap h' → SetS P w Vp h' a (fun j => S j || decide (j = k)) es1.size → Q true { s with heap := h' } := fun h' sb r => by
      have q := hQ h' sb
      rw [hSk] at q
      rw [hsz] at r
      exact q r
    refine wpAny_bind (hgw _ ?_)
    split
    · refine wpAny_bind ?_
      rw [hashByValue_scannable 8 hsc]
      refine wpAny_pure ?_
      refine setS_add_tail ?_ ho hex hd g1 nd1 m1 hb1 ?_ ?_ ?_ ?_
      · intro b s₁ Q' q; cases b <;> first | exact wpAny_pure q | exact wpAny_rule q
      · first | (split <;> first | exact hf1 | exact SetTable.fits_plain_off hf1) | exact hf1
      · first | (split <;> exact hr1) | exact hr1
      · first | (split <;> exact hled) | exact hled
      · intro h' sb r; dsimp only; exact wpAny_pure (fin h' sb r)
    · refine wpAny_bind (wpAny_pure ?_)
      simp only [↓reduceIte]
      refine setS_add_tail ?_ ho hex hd g1 nd1 m1 hb1 hf1 hr1 hled ?_
      · intro b s₁ Q' q; cases b <;> first | exact wpAny_pure q | exact wpAny_rule q
      · intro h' sb r; dsimp only; exact wpAny_pure (fin h' sb r)
theorem setS_new_at {h : Heap} {ss : List Str} (ho : h.get? a = some { cls := .type "set", dict := none, data := .set #[] 0 (.fresh 0 0 (!w.params.followText "set-order")) }) : SetS P w Vp h a (fun j => decide (j ∈ ss.take 0)) 0 :=
  ⟨_, #[], 0, _, ho, ⟨rfl, rfl, rfl⟩, rfl, (fun e he => by simp at he), (by simp), (fun k => by simp), (by decide), (by rfl), rfl, List.Pairwise.nil, by
    show _ ∨ (!w.params.followText "set-order") = true
    cases w.params.followText "set-order"
    · exact .inr rfl
    · exact .inl rfl⟩
theorem set_update_strs {I : Addr} {fp wr : List Addr} {G : Array GenState → Array GenState → Prop} {n : Nat} {Pv : Nat → Value → Prop} {St : Nat → Shared → Prop} {R : Result → Shared → Prop}
    (W : WalksS P w A.in1 I fp wr G n Pv St) (S : Addr) (hSf : S ∉ fp) (ns : List Str) (hn : n = ns.length) (hb : ns.length + 1 < scanBound) (hval : ∀ i v, Pv i v → ∃ k t, ns[i]? = some k ∧ v = .str k t ∧ Vp v) :
    ∀ (k i : Nat) (s : Shared), n - i = k → i ≤ n → St i s → (∃ c, c ≤ i ∧ SetS P w Vp s.heap S (fun j => decide (j ∈ ns.take i)) c) →
      (∀ s' c, Moved (S :: wr) G s s' → c ≤ n → SetS P w Vp s'.heap S (fun j => decide (j ∈ ns)) c → R (.ok (.ret .none)) s') →
      codeAny (model P w) A (.builtin "set.update.loop" ⟨[.ref S, .ref I], []⟩) R s := by
  have hSw : S ∉ wr := fun h => hSf (W.sub _ h)
  have hsub : ∀ b ∈ wr, b ∈ S :: wr := fun b hb => List.mem_cons_of_mem _ hb
  intro k
  induction k with
  | zero =>
    intro i s hk' hi hst ⟨c, hc, hS⟩ hR
    have hin : i = n := by omega
    subst hin
    refine codeAny_builtin PyProof.Rows.F.entry_set_update_loop ?_
    rw [Around.under_plainId PyProof.Rows.F.plain_set_update_loop _]
    show wpAny _ A.in1 (pyNext (.ref I) >>= _) _ _ s
    refine wpAny_bind (W.done s _ _ hst fun s' hm => ?_)
    show wpAny _ A.in1 (ret Value.none) _ _ s'
    have e : ns.take i = ns := List.take_of_length_le (by omega)
    rw [e] at hS
    exact wpAny_pure (hR s' c (hm.mono hsub) hc (hS.at fun o e => hm.heap S o hSw e))
  | succ k ih =>
    intro i s hk' hi hst ⟨c, hc, hS⟩ hR
    have hlt : i < n := by omega
    refine codeAny_builtin PyProof.Rows.F.entry_set_update_loop ?_
    rw [Around.under_plainId PyProof.Rows.F.plain_set_update_loop _]
    show wpAny _ A.in1 (pyNext (.ref I) >>= _) _ _ s
    refine wpAny_bind (W.item i s _ _ hlt hst fun v s' hP hst' hm => ?_)
    obtain ⟨z, t, hz, rfl, hvp⟩ := hval i v hP
    have hS' : SetS P w Vp s'.heap S (fun j => decide (j ∈ ns.take i)) c := hS.at fun o e => hm.heap S o hSw e
    show wpAny _ A.in1 (holding [Value.str z t] (setAdd S (.str z t)) >>= _) _ _ s'
    refine wpAny_bind (wpAny_holding ?_)
    unfold setAdd
    refine wpAny_holding ?_
    refine wpAny_bind ((PySem.strKind P w).pyHash (k := z) (strIs _ _) ?_)
    refine setS_add_hashed (s := { s' with toks := s'.toks + 1 }) hS' (by omega) hvp fun h' hsb hS2 => ?_
    have hS3 : SetS P w Vp h' S (fun j => decide (j ∈ ns.take (i + 1))) (if decide (z ∈ ns.take i) = true then c else c + 1) := hS2.congr fun j => by
      rw [List.take_add_one, hz]
      simp [List.mem_append]
    have hc3 : (if decide (z ∈ ns.take i) = true then c else c + 1) ≤ i + 1 := by
      split <;> omega
    refine wpAny_pure ⟨plainId_quiet PyProof.Rows.F.plain_set_update_loop _, ih (i + 1) _ (by omega) hlt (W.frame _ s' _ _ hst' (Nat.le_succ _) fun b hb o e => ?_) ⟨_, hc3, hS3⟩ fun s'' c2 hm'' hc'' hS'' => ?_⟩
    · rw [hsb.2 b (fun h : b = S => hSf (by rw [← h]; exact hb))]; exact e
    · refine hR s'' c2 (Moved.trans W.gtrans ((hm.mono hsub).then_heap (Nat.le_succ _) fun b o hb e => ?_) hm'') hc'' hS''
      rw [hsb.2 b (fun h : b = S => hb (by rw [h]; exact List.mem_cons_self))]; exact e
theorem strs_get {vs : List Value} {ss : List Str} {v : Value} (h : StrsAre vs ss) : ∀ {i : Nat}, vs[i]? = some v → ∃ k t, ss[i]? = some k ∧ v = .str k t := by
  induction h with
  | nil => intro i e; simp at e
  | cons n t h ih =>
    intro i e
    cases i with
    | zero => simp at e; exact ⟨_, _, rfl, e.symm⟩
    | succ i => obtain ⟨k, t, h3, h4⟩ := ih (by simpa using e); exact ⟨k, t, by simpa using h3, h4⟩
theorem call_set_lstS {l : Addr} {its : Array Value} (ks : List Str) {Q : Value → Shared → Prop} (hh : A.handled = none) (hl : s.heap.IsList l its) (hi : StrsAre its.toList ks) (hv : ∀ v ∈ its.toList, Vp v) (hb : ks.length + 1 < scanBound)
    (fin : ∀ (h' : Heap) (tk c : Nat), SetS P w Vp h' s.heap.objs.size (fun j => decide (j ∈ ks)) c → c ≤ ks.length → (∀ b o, s.heap.get? b = some o → h'.get? b = some o) → Q (.ref s.heap.objs.size) { s with heap := h', toks := tk }) :
    wpAny (model P w) A (call (.type "set") [.ref l]) Q E s := by
  have hlen : its.toList.length = ks.length := by
    clear fin hb hl hv
    generalize its.toList = vs at hi
    induction hi with
    | nil => rfl
    | cons n t h ih => simp [ih]
  have hsz : its.size = ks.length := by rw [← Array.length_toList]; exact hlen
  obtain ⟨c0, tl0, mro0⟩ := F.called_set.mro
  have made0 := F.called_set.made
  have sub0 := F.called_set.sub
  refine wpAny_call (codeAny_of_tree ?_)
  show wpAny _ _ (callAny (.type "set") _) _ _ _
  refine wpAny_pure ⟨Code.quiet_builtin _ (by decide +kernel), codeAny_builtin F.entry_type_call ?_⟩
  rw [Around.under_plain (weight_type_call_type "set" [.ref l] []) rfl]
  have nt0 := F.called_set.notType
  have cc0 := F.called_set.canCreate
  have tc0 := F.typeCall_set_1 (.ref l)
  repeat (any_goals (first | assumption | wp_step))
  let nw : Obj := { cls := .type "set", dict := none, data := .set #[] 0 (.fresh 0 0 (!w.params.followText "set-order")) }
  refine codeAny_mono (code_set_led1 (.ref l) (E := E) (Q₁ := fun obj s1 => obj = .ref s.heap.objs.size ∧ s1 = { s with heap := s.heap.push nw }) ⟨rfl, rfl⟩) fun r s1 hr => ?_
  cases r with
  | error e => exact hr
  | ok fl =>
    cases fl with
    | ret obj =>
      obtain ⟨rfl, rfl⟩ := hr
      have gS : (s.heap.push nw).get? s.heap.objs.size = some nw := Heap.get?_push_size _ rfl
      have tS : Shared.TypeIs { s with heap := s.heap.push nw } (.ref s.heap.objs.size) "set" := ⟨_, gS, rfl⟩
      have il0 := F.called_set.init.lookup
      have ib0 := F.called_set.init.bind (.ref s.heap.objs.size)
      repeat (any_goals (first | assumption | wp_step))
      refine codeAny_mono (codeAny_call_builtin (R := wants (fun r s2 => r = .none ∧ ∃ h' tk c, s2 = { s with heap := h', toks := tk } ∧ SetS P w Vp h' s.heap.objs.size (fun j => decide (j ∈ ks)) c ∧ c ≤ ks.length ∧
          (∀ b o, s.heap.get? b = some o → h'.get? b = some o)) E) F.called_set.init.plain F.entry_set_init (check_set_init_1 tS ?_)) fun r2 s2 hr2 => ?_
      · obtain ⟨ol, hol, hcl, nl, hdl⟩ := hl
        have gl : (s.heap.push nw).get? l = some ol := Heap.get?_push_of_some _ hol
        have ll : (s.heap.push nw).IsList l its := ⟨ol, gl, hcl, nl, hdl⟩
        obtain ⟨ocls, odict, odata, oslots⟩ := ol
        simp only at hcl hdl
        subst hcl
        subst hdl
        have ss1 := F.sub_list_set
        have ss2 := F.sub_list_frozenset
        have nd0 : (Value.type "list" == Value.type "dict") = false := by decide
        unfold Builtin.«set.__init__» noKeywords Builtin.Frozenset.updateFrom
        generalize hPI : pyIter = PI
        wp_walk
        subst hPI
        have hh3 : A.in1.in1.in1.handled = none := by simp [hh]
        have lt0 : l < s.heap.objs.size := Heap.lt_size hol
        have ne0 : l ≠ (s.heap.push nw).objs.size := by rw [Heap.size_push]; exact Nat.ne_of_lt (Nat.lt_succ_of_lt lt0)
        have nS : s.heap.objs.size ∉ [(s.heap.push nw).objs.size, l] := by
          rw [Heap.size_push]
          simp only [List.mem_cons, List.not_mem_nil, or_false, not_or]
          exact ⟨Nat.ne_of_lt (Nat.lt_succ_self _), Nat.ne_of_gt lt0⟩
        have vals : ∀ (i : Nat) (v : Value), its[i]? = some v → ∃ k t, ks[i]? = some k ∧ v = .str k t ∧ Vp v := fun i v hv' => by
          have q : its.toList[i]? = some v := by rw [Array.getElem?_toList]; exact hv'
          obtain ⟨k, t, e1, e2⟩ := strs_get hi q
          exact ⟨k, t, e1, e2, hv v (List.mem_of_getElem? q)⟩
        refine wpAny_pyIter_list ll (wpAny_bind (wpAny_runValue (codeAny_mono (set_update_strs (Vp := Vp) (Walks.list hh3 _ l ne0 its).toS s.heap.objs.size nS ks hsz hb vals (R := wants (fun r s2 => r = .none ∧ ∃ h' tk c, s2 = { s with heap := h', toks := tk } ∧ SetS P w Vp h' s.heap.objs.size (fun j => decide (j ∈ ks)) c ∧ c ≤ ks.length ∧ (∀ b o, s.heap.get? b = some o → h'.get? b = some o)) E)
          (its.size - 0) 0 _ (by omega) (Nat.zero_le _) ?_ ⟨0, Nat.le_refl _, setS_new_at (Heap.get?_push_of_some _ gS)⟩ fun s4 c mv hc hS => ?_) fun r s5 h5 => ?_)))
        · exact ⟨⟨_, Heap.get?_push_size _ rfl, rfl, rfl⟩, ⟨_, Heap.get?_push_of_some _ gl, rfl, nl, rfl⟩⟩
        · obtain ⟨h4, g4, d4, t4, o4⟩ := s4
          have eg : g4 = s.gens := mv.gens
          have ed : d4 = s.drawn := mv.drawn
          have eo : o4 = s.os := mv.os
          subst eg; subst ed; subst eo
          refine ⟨rfl, h4, t4, c, rfl, hS, by omega, fun b o e => ?_⟩
          have lb := Heap.lt_size e
          refine mv.heap b o ?_ (Heap.get?_push_of_some _ (Heap.get?_push_of_some _ e))
          rw [Heap.size_push]
          simp only [List.mem_cons, List.not_mem_nil, or_false, not_or]
          exact ⟨Nat.ne_of_lt lb, Nat.ne_of_lt (Nat.lt_succ_of_lt lb)⟩
        · cases r with
          | error e => exact h5
          | ok f5 =>
            cases f5 with
            | ret v5 => exact wpAny_pure (wpAny_pure ⟨rfl, h5.2⟩)
            | _ => exact h5.elim
      · cases r2 with
        | error e => exact hr2
        | ok f2 =>
          cases f2 with
          | ret r =>
            obtain ⟨rfl, h', tk, c, rfl, hS', hc', hk'⟩ := hr2
            repeat (any_goals (first | assumption | wp_step))
            exact fin _ _ c hS' hc' hk'
          | _ => exact hr2.elim
    | _ => exact hr.elim
end
end CL

set_option maxHeartbeats 3200000
namespace CL
open PySem PySem.Spec PyProof.Rows L2
section
variable {P : Program} {w : World} {A : Around} {E : Value → Shared → Prop} {s : Shared} {a : Addr} {S : Str → Bool} {n : Nat} {Vp : Value → Prop}
theorem strsAre_keys (Vp : Value → Prop) : ∀ (l : List (Int × Value)), (∀ e ∈ l, GoodS P w Vp e) → StrsAre (l.map (·.2)) (l.map keyS)
  | [], _ => .nil
  | e :: l, h => by
    obtain ⟨⟨k, tk, h1, _⟩, _⟩ := h e List.mem_cons_self
    have hk : keyS e = k := by unfold keyS; rw [h1]
    rw [List.map_cons, List.map_cons, h1, hk]
    exact .cons k tk (strsAre_keys Vp l fun u hu => h u (List.mem_cons_of_mem _ hu))
theorem strsAre_of : ∀ (l : List Value), (∀ v ∈ l, ∃ k tk, v = Value.str k tk) → StrsAre l (l.map fun v => keyS (0, v))
  | [], _ => .nil
  | v :: l, h => by
    obtain ⟨k, tk, rfl⟩ := h v List.mem_cons_self
    exact .cons k tk (strsAre_of l fun u hu => h u (List.mem_cons_of_mem _ hu))
theorem sorted_setS {Q : Value → Shared → Prop} (R : SetS P w Vp s.heap a S n) (hh : A.handled = none) (h64 : n < 64)
    (hQ : ∀ s' p (out : Array Value) (c : Nat) (ys : List Str), (∀ b o, s.heap.get? b = some o → s'.heap.get? b = some o) → s'.gens = s.gens → s'.os = s.os → s.heap.objs.size ≤ p →
      s'.heap.get? p = some (seqObj "list" out c) → StrsAre out.toList ys → sortedS ys = true → ys.Nodup → (∀ k, k ∈ ys ↔ S k = true) → ys.length = n → (∀ v ∈ out.toList, Vp v) → Q (.ref p) s') :
    wpAny (model P w) A (call (.builtin "sorted") [.ref a]) Q E s := by
  obtain ⟨o, es, ep, t, ho, hex, hd, g, nd, hm, hb, hf, hn, hr, hl⟩ := R
  refine Calls.call_function_entry PyProof.Rows.kind_sorted PyProof.Rows.plain_sorted PyProof.Rows.entry_sorted (PyProof.Rows.args_sorted1 _) ?_
  unfold Builtin.«sorted»
  refine wpAny_bind (m := checkCount "sorted" 1 1 _) (wpAny_pure ?_)
  refine wpAny_bind (collect_set (A := A.in1) hh ⟨o, ho, hex.1, hd⟩ hf hb hr hl fun s1 vs k1 hz g1 o1 pm => ?_)
  have hvl : vs.length = n := by rw [pm.length_eq, List.length_map, Array.length_toList]; exact hn
  have hS : StrsAre vs (vs.map fun v => keyS (0, v)) := strsAre_of vs fun v hv => by
    obtain ⟨e, he, q⟩ := List.mem_map.mp (pm.mem_iff.mp hv)
    obtain ⟨⟨k, tk, h1, _⟩, _⟩ := g e he
    exact ⟨k, tk, by rw [← q]; exact h1⟩
  have hvp : ∀ v ∈ vs, Vp v := fun v hv => by
    obtain ⟨e, he, q⟩ := List.mem_map.mp (pm.mem_iff.mp hv)
    rw [← q]
    exact (g e he).2
  have pk : (vs.map fun v => keyS (0, v)).Perm (es.toList.map keyS) := by
    have q := pm.map fun v => keyS (0, v)
    rw [List.map_map] at q
    exact q
  refine wpAny_bind (wpAny_newList ?_ (by rw [hvl, sizeLine_eq]; omega))
  have hoL : (s1.heap.push (seqObj "list" vs.toArray 0)).get? s1.heap.objs.size = some (seqObj "list" vs.toArray 0) := Heap.get?_push_size _ rfl
  refine wpAny_bind (wpAny_holding (wpAny_call_entry PyProof.Rows.slot_list_sort ⟨_, hoL, rfl⟩ PyProof.Rows.entry_list_sort
    (list_sort_treeK strKind_oneLt hoL hS.keysOf (fun v₁ v₂ rest e => keyKind_strs (by rw [← e]; exact hS)) (by rw [hvl]; exact h64) fun st' hp hs => ⟨_, rfl, ?_⟩)
    (PyProof.Rows.args_list_sort _)))
  obtain ⟨ys, g2, g3, g4⟩ := sorted_out_str hS hp hs
  obtain ⟨c, hc⟩ := PyProof.Rows.sortedHeap_at (vs := vs) (out := (arrOf st').map (·.2)) hoL
  have pn : ys.Perm (es.toList.map keyS) := g3.trans pk
  refine wpAny_pure ⟨_, rfl, hQ _ s1.heap.objs.size _ c ys (fun b u e => ?_) g1 o1 hz hc g2 g4 (pn.nodup_iff.mpr nd) (fun k => by rw [pn.mem_iff, ← hm k]) ?_ fun v hv => ?_⟩
  · have q := k1 b u e
    have hlt := Heap.lt_size q
    show (sortedHeap (s1.heap.push (seqObj "list" vs.toArray 0)) s1.heap.objs.size vs _).get? b = some u
    rw [sortedHeap_old (Nat.ne_of_lt hlt) (by rw [size_push']; exact Nat.lt_succ_of_lt hlt)]
    exact Heap.get?_push_of_some _ q
  · rw [pn.length_eq, List.length_map, Array.length_toList]; exact hn
  · rw [Array.toList_map] at hv
    obtain ⟨q, hq, rfl⟩ := List.mem_map.mp hv
    have hl' : (arrOf st').toList.Perm (vs.zip vs) := by rw [← pairsOf_toList]; exact Array.perm_iff_toList_perm.mp hp
    exact hvp _ (List.of_mem_zip (hl'.mem_iff.mp hq)).2
end
def SetSO (P : Program) (w : World) (a : Addr) (S : Str → Bool) (n : Nat) : HO := .ext fun h => SetS P w (fun _ => True) h a S n
section
variable {X : Cx} {M : Md} {W : WX} {O : List Nat} {f : DEnv → R D} {pos : Pos}
theorem cr_setLS (hc : X.calm = true) : CallR X (.type "set") (fun vs H Q => ∃ (a : Addr) (ss : List Str), vs = [V.ref a] ∧ SqL X.K H a (ss.map V.str) ∧ ss.length < 64 ∧ ∀ p c, c ≤ ss.length → H p = none → Q (.ref p) (upd H p (SetSO X.prog X.w p (fun j => decide (j ∈ ss)) c))) := by
  intro pins s σ H vs us Q I r h
  obtain ⟨a, ss, rfl, hs, h64, q⟩ := h
  obtain ⟨its, rv, hl, hz⟩ := I.list hs
  rw [Vals.ref1 r]
  refine call_set_lstS (Vp := fun _ => True) ss (I.ok.hd hc) hl.isList (by simpa using rv.strs) (fun _ _ => trivial) (by unfold scanBound; omega) fun h' tk c hS hcl hk => ?_
  have ⟨o, _, _, _, ho, _⟩ := hS
  have J : L2.Inv X pins σ (upd H s.heap.objs.size (SetSO X.prog X.w s.heap.objs.size (fun j => decide (j ∈ ss)) c)) { s with heap := h', toks := tk } :=
    I.laid (t' := tk) hk (Nat.le_refl _) ⟨hS, ⟨o, ho⟩, fun h1 h2 p k => SetS.at p k⟩
  exact ⟨.ref _, _, J, rfl, q _ c hcl (I.hok.fresh (Nat.le_refl _))⟩
theorem cr_sortedSS (hc : X.calm = true) : CallR X (.builtin "sorted") (fun vs H Q => ∃ (a : Addr) (S : Str → Bool) (n : Nat), vs = [V.ref a] ∧ H a = some (SetSO X.prog X.w a S n) ∧ n < 64 ∧
    ∀ (ys : List Str) (p : Addr), sortedS ys = true → ys.Nodup → (∀ k, k ∈ ys ↔ S k = true) → ys.length = n → H p = none → Q (.ref p) (upd H p (.lst (ys.map V.str)))) := by
  intro pins s σ H vs us Q I r h
  obtain ⟨a, S, n, rfl, ha, h64, q⟩ := h
  have R : SetS X.prog X.w (fun _ => True) s.heap a S n := (I.hok a _ ha).1
  rw [Vals.ref1 r]
  refine sorted_setS R (I.ok.hd hc) h64 fun s' p out c ys k g o hp hg hi hs hnd hm hl _ => ?_
  have hlen : (ys.map V.str).length ≤ sizeLine := by rw [List.length_map, hl, sizeLine_eq]; omega
  have hn : H p = none := I.hok.fresh hp
  have J : L2.Inv X pins σ (upd H p (.lst (ys.map V.str))) { s with heap := s'.heap, gens := s'.gens, drawn := s'.drawn, toks := s'.toks } :=
    I.call (ch := []) (Un.laid k hp hn) (I.hok.laid k hp ⟨hlen, out.toList, c, vals_of_strs hi, hg⟩) (by rw [g]; exact I.bare) (fun _ z => nomatch z)
  have e : s' = { s with heap := s'.heap, gens := s'.gens, drawn := s'.drawn, toks := s'.toks } := by
    cases s'
    cases s
    cases o
    rfl
  rw [e]
  exact ⟨.ref p, _, J, rfl, q ys p hs hnd hm hl hn⟩
/-- each text once -/
def ddS : List (List Nat) → List (List Nat)
  | [] => []
  | x :: l => if l.contains x then ddS l else x :: ddS l
theorem mem_ddS : ∀ (l : List (List Nat)) (x : List Nat), x ∈ ddS l ↔ x ∈ l
  | [], x => by simp [ddS]
  | y :: l, x => by
    unfold ddS
    split
    · rename_i h
      rw [mem_ddS l x, List.mem_cons]
      constructor
      · exact .inr
      · rintro (rfl | h')
        · simpa using h
        · exact h'
    · rw [List.mem_cons, List.mem_cons, mem_ddS l x]
theorem ddS_nodup : ∀ l : List (List Nat), (ddS l).Nodup
  | [] => List.nodup_nil
  | y :: l => by
    unfold ddS
    split
    · exact ddS_nodup l
    · rename_i h
      refine List.nodup_cons.2 ⟨fun z => h ?_, ddS_nodup l⟩
      simpa using (mem_ddS l y).1 z
def sortSetS (f : DEnv → R D) : DEnv → R D := fun δ => (f δ).bind fun d => match d with
  | .lst ds => (match allStr ds with
    | some ss => if ss.length < 64 then .ok (.lst ((isort (ddS ss)).map D.str)) else .bad
    | none => .bad)
  | _ => .bad
theorem perm_of_nodup {α : Type} [DecidableEq α] : ∀ {a b : List α}, a.Nodup → b.Nodup → (∀ x, x ∈ a ↔ x ∈ b) → a.Perm b := fun ha hb h => (List.perm_ext_iff_of_nodup ha hb).2 h
theorem sd_sortSetS {a : Expr} {p p2 q : Pos} (hc : X.calm = true) (hm : X.mg "sorted" = none) (hm2 : X.mg "set" = none) (ha : PE X a (tD M W O f)) (hg : Gl X "sorted" := by rfl) (hg2 : Gl X "set" := by rfl)
    (na : starEach [a] X.env = (false, eval a X.env) :: starEach [] X.env := by rfl) (hs1 : starEach [.Call (.Name "set" p2) [a] [] q] X.env = (false, eval (.Call (.Name "set" p2) [a] [] q) X.env) :: starEach [] X.env := by rfl) :
    PE X (.Call (.Name "sorted" p) [.Call (.Name "set" p2) [a] [] q] [] pos) (tD M W O (sortSetS f)) := by
  refine pe_imp (pe_callB (cr_sortedSS hc) hg hm (by decide +kernel) (pa_cons (pe_callTy (cr_setLS hc) hg2 hm2 (by decide +kernel) (pa_cons ha pa_nil na) (he := na) (hpl := rfl)) pa_nil hs1) (he := hs1) (hpl := rfl)) fun σ H Q ⟨δ, F, E, w⟩ => ?_
  show tD M W O f σ H _
  refine tE.one E w fun d v H1 F1 ed g1 r w1 => ?_
  cases d with
  | lst ds =>
    cases r with
    | lst h1 h2 h3 =>
      simp only at w1
      split at w1
      · rename_i ss hss
        rw [allStr_eq hss] at h3
        obtain ⟨e1, hok⟩ := h3.strs
        split at w1
        · rename_i h64
          refine ⟨_, ss.map fun s => (⟨s.toArray⟩ : Str), rfl, SqL.of (by rw [h2, e1]), by simpa using h64, fun p c hcl hp => ?_⟩
          refine ⟨p, _, c, rfl, upd_same, Nat.lt_of_le_of_lt hcl (by simpa using h64), fun ys p' hs hnd hm hl hp' => ?_⟩
          have g2 := Grow.newT (o := SetSO X.prog X.w p (fun j => decide (j ∈ ss.map fun s => (⟨s.toArray⟩ : Str))) c) g1.dom hp
          have inj : ∀ {a b : List Nat}, (⟨a.toArray⟩ : Str) = ⟨b.toArray⟩ → a = b := fun {a b} h => by injection h with h; simpa using h
          have pm : ys.Perm ((ddS ss).map fun s => (⟨s.toArray⟩ : Str)) := by
            refine (List.perm_ext_iff_of_nodup hnd ?_).2 fun x => ?_
            · refine List.nodup_iff_pairwise_ne.2 (List.pairwise_map.2 ?_)
              exact (List.nodup_iff_pairwise_ne.1 (ddS_nodup ss)).imp fun h e => h (inj e)
            · rw [hm x]
              simp only [decide_eq_true_eq, List.mem_map, mem_ddS]
          have en := sorted_is pm hs
          have g3 := Grow.newL (o := .lst (ys.map V.str)) g2.dom hp'
          rw [en] at g3 ⊢
          refine w1 (.ref p') _ _ ((g1.trans g2).trans g3) (.lst (.inr rfl) upd_same ?_)
          have := RepAll.of_strs (M := M) (F := fun z => F1 z ∨ z = p') (H := upd (upd H1 p (SetSO X.prog X.w p (fun j => decide (j ∈ ss.map fun s => (⟨s.toArray⟩ : Str))) c)) p' (.lst (((isort (ddS ss)).map fun s => (⟨s.toArray⟩ : Str)).map V.str))) (ss := isort (ddS ss)) (fun s hs => hok s ((mem_ddS ss s).1 ((isort_perm _).mem_iff.1 hs)))
          simpa [List.map_map, Function.comp_def] using this
        · exact w1.elim
      · exact w1.elim
  | _ => exact w1.elim
end
end CL

set_option maxHeartbeats 1000000
namespace CL
open PySem PySem.Spec PyProof.Rows L2
/-! ### xs[lo:hi], a new list; i << j; x not in f(..) that leaves the frame -/
def cutN (f : DEnv → R D) (lo hi : DEnv → R (Option Int)) : DEnv → R D := fun δ => (f δ).bind fun a => (lo δ).bind fun l => (hi δ).bind fun h => match a with | .lst xs => .ok (.lst (cutL xs l h)) | _ => .bad
def D.shl : D → D → R D
  | .int i, .int j => if wid 18446744073709551615 i = true ∧ wid 1000 j = true ∧ 0 ≤ j then .ok (.int (i * 2 ^ j.toNat)) else .bad
  | _, _ => .bad
section
variable {X : Cx} {M : Md} {W : WX} {O : List Nat} {f g : DEnv → R D} {e a b : Expr} {pos : Pos}
theorem sn_cut {lo hi : Option Expr} {fl fh : DEnv → R (Option Int)} {p2 : Pos} (he : PE X e (tB M W O f)) (hl : PO X lo (tP M W O fl)) (hh : PO X hi (tP M W O fh)) : PE X (.Subscript e (.Slice lo hi none p2) pos) (tN M W O (cutN f fl fh)) := pe_imp (pe_slice sl_list he hl hh) fun σ H Q ⟨δ, F, I, w⟩ => by
  refine tE.one I w fun a x H1 F1 ea g1 ra w1 => ?_
  refine ⟨δ, F1, I.grow g1, R.wp_mono (R.wp_bind w1) (fun l _ w2 H2 F2 g2 => ?_) fun n q H2 F2 g2 => q H2 F2 (g1.trans g2)⟩
  refine ⟨δ, F2, (I.grow g1).grow g2, R.wp_mono (R.wp_bind w2) (fun u _ w3 H3 F3 g3 => ?_) fun n q H3 F3 g3 => q H3 F3 ((g1.trans g2).trans g3)⟩
  have ra3 := (ra.grow g2).grow g3
  have gg := (g1.trans g2).trans g3
  cases a with
  | lst xs =>
    obtain ⟨p, vs, rfl, h1, r1⟩ := ra3
    refine ⟨p, vs, rfl, SqL.of h1, fun q hq => ?_⟩
    exact w3 q _ _ (gg.trans (Grow.newT gg.dom hq)) (none_of_grow gg hq) (not_dom gg.dom hq) ⟨_, upd_same, (r1.cut l u).grow (Grow.newT gg.dom hq)⟩
  | _ => exact w3.elim
theorem od_shl : OpR X (binaryOp .LShift) (rD M D.shl) := by
  intro pins s σ H x y v u Q I rx ry ⟨F, a, b, dm, ra, rb, w⟩
  unfold D.shl at w
  split at w
  · cases (show Rep M F H x _ from ra)
    cases (show Rep M F H y _ from rb)
    split at w
    · rename_i h
      obtain ⟨h1, h2, h3⟩ := h
      rw [wid_iff] at h1 h2
      exact op_shl pins s σ H _ _ v u Q I rx ry ⟨_, _, rfl, rfl, ⟨h3, by omega, by omega⟩, w _ H F (Grow.refl dm) (.int _)⟩
    · exact w.elim
  · exact w.elim
theorem ub (h : PEu X e (tD M W O f)) : PEu X e (tB M W O f) := peu_imp h fun σ H Q ⟨δ, F, I, w⟩ => ⟨δ, F, I, R.wp_mono w (fun d _ q v H' F' g r => q v H' F' g (Rep.b r)) fun _ q => q⟩
theorem u_notin (hu : X.A.units + 64 < cLine) (ha : PEu X a (tD M W O f)) (hb : PEu X b (tD M W O g)) (hm : behindInMarks .NotIn b = false := by first | exact nomark _ | rfl) : PTu X (.Compare a [.NotIn] [b] pos) (tT M W O (tst (bin D.notinL f g))) := by
  refine ⟨fun pins s σ H Q I h => ?_⟩
  have h1 : tOp (rD M D.notinL) (tB M W O f) (tB M W O g) σ H (fun x H' => ∃ k, x = .bl k ∧ Q k H') := by
    have := tTest_of h
    unfold tTest at this
    exact tOp_of (M := M) (W := W) (O := O) (Q := fun x H' => ∃ k, x = .bl k ∧ Q k H') this
  refine wpAny_isTrue_Compare1 (thn ((ub ha).run pins s σ H _ I h1) fun v s1 ⟨x, H1, I1, r1, q1, u1, t1⟩ => thn ((ub hb).run pins s1 σ H1 _ I1 q1) fun u s2 ⟨y, H2, I2, r2, q2, u2, t2⟩ => ?_) hm
  obtain ⟨F, da, db, dm, ra, rb, w⟩ := q2
  unfold D.notinL at w
  split at w
  · rename_i l
    split at w
    · rename_i h
      simp only [Bool.and_eq_true, decide_eq_true_eq] at h
      obtain ⟨da', ca⟩ := ra.dp (K := X.K) h.1.1
      obtain ⟨db', cb⟩ := rb.dp (K := X.K) (by simpa [D.plain] using h.1.2)
      obtain ⟨as, rr1⟩ := Dp.reads I2 _ x v da' r1
      obtain ⟨bs, rr2⟩ := Dp.reads I2 _ y u db' r2
      have e := D.dep_py da
      refine SeqAt.notIn_list_reads (xs := D.pys l) rr2 rr1 (by simpa [D.py, PyData.canLay0] using cb) ca (by rw [e]; omega) (wpAny_truthy_bool ⟨H2, I2, ?_, u1.trans u2, Nat.le_trans t1 t2⟩)
      rw [eqv_any _ h.1.1 _ h.1.2]
      obtain ⟨k, e1, q⟩ := w _ H2 F (Grow.refl dm) (.bl _)
      cases e1
      exact q
    · exact w.elim
  · exact w.elim
end
end CL

set_option maxHeartbeats 1000000
namespace CL
open PySem PySem.Spec PyProof.Rows L2
section
variable {X : Cx} {M : Md} {W : WX} {H0 : Hp} {F0 : Addr → Prop} {O O1 O' Ol : List Nat} {pos : Pos} {e : Expr} {f g : DEnv → R D}
/-! ### k not in d; {k: v}, a new dict -/
def D.notinD : D → D → R D
  | .tup l, .dct kds => if okKey (.tup l) then .ok (.bl (dget kds (.tup l)).isNone) else .bad
  | _, _ => .bad
theorem od_notinD (hu : X.A.units + 64 < cLine) (hw : M.hk = fun k => k.hash X.w) : OpR X (compareOp .NotIn) (rD M D.notinD) := by
  intro pins s σ H x y v u Q I rx ry ⟨F, a, b, dm, ra, rb, w⟩
  unfold D.notinD at w
  split at w
  · rename_i l kds
    obtain ⟨p, es, ep, rfl, h1, r1⟩ := rb
    split at w
    · rename_i ok
      obtain ⟨k, e, hd⟩ := okKey_ex ok
      obtain ⟨hsm, raw, xs, dh, _, xr⟩ := dct_at I hw h1 r1
      have at_ := at_dget xr e
      cases (show Rep M F H x _ from ra) with
      | tup h2 h3 =>
        obtain rfl : v = Value.ref _ := rx
        obtain rfl : u = Value.ref p := ry
        refine wpAny_notIn_heap (room_in hu) ⟨Rep.key I.hok (.tup h2 h3) e rfl, hd⟩ hsm dh ?_
        have eb : (!(atKey xs k).isSome) = (dget kds (.tup l)).isNone := by
          cases hv : dget kds (.tup l) with
          | none => rw [hv] at at_; rw [show atKey xs k = none from at_]; rfl
          | some v0 => rw [hv] at at_; obtain ⟨b, i, t, e1, _⟩ := at_; rw [e1]; rfl
        exact ⟨.bl _, H, I.tok _, by rw [eb]; rfl, w _ H F (Grow.refl dm) (.bl _)⟩
    · exact w.elim
  · exact w.elim
theorem sn_disp {k v : Expr} (hu : X.A.units + 64 < cLine) (hw : M.hk = fun k => k.hash X.w) (hk : PE X k (tD M W O f)) (hv : PE X v (tD M W O g)) : PE X (.Dict [some k] [v] pos) (tN M W O (dispV f g)) := by
  refine ⟨fun pins s σ H Q I ⟨δ, F, E, w⟩ => ?_⟩
  have hn := pairTrees_length [some k] [v] X.env pos rfl rfl
  have hp0 : pairTrees [some k] [v] X.env pos ≠ [] := by
    intro he
    rw [he] at hn
    cases hn
  rw [arm_eval_Dict, zip_pairTrees [some k] [v] X.env pos rfl rfl, dictDisplay_pairs _ hp0 (by rw [hn]; simp)]
  have hfr := I.hok.fresh (Nat.le_refl s.heap.objs.size)
  have hsm : (s.heap.objs.size == sysModules) = false := by
    have := I.big
    exact beq_eq_false_iff_ne.2 (by intro z; rw [z] at this; exact Nat.lt_irrefl _ this)
  have raw0 : (s.heap.push { cls := .type "dict", data := .dict #[] }).DictRaw s.heap.objs.size #[] 0 := ⟨_, Heap.get?_push_size _ rfl, ⟨rfl, rfl, rfl⟩, rfl⟩
  have I1 := I.laid (a := s.heap.objs.size) (o := DctO s.heap.objs.size #[] 0) (h' := s.heap.push { cls := .type "dict", data := .dict #[] }) (t' := s.toks) (fun _ _ q => Heap.get?_push_of_some _ q) (Nat.le_refl _) (dct_new raw0 hsm)
  have g0 : Grow F H F (upd H s.heap.objs.size (DctO s.heap.objs.size #[] 0)) := Grow.newT E.dom hfr
  have nF0 : ¬ F s.heap.objs.size := fun z => by obtain ⟨o, e⟩ := E.dom _ z; rw [hfr] at e; cases e
  refine wpAny_bind (wpAny_standAt (wpAny_bind (wpAny_subDictH (knd := nestedKind X.prog X.w) (Q := fun d s' => wpAny (model X.prog X.w) X.A (pure (Value.ref d)) (EP X pins σ Q) X.xe s') (by show X.A.units + 8 < cLine; omega) (by rw [hn]; simp)
    (thn ((pps_cons hk hv pps_nil).run pins _ σ _ (fun ps H2 => ∃ x y l z F2, ps = [(x, y)] ∧ Grow F (upd H s.heap.objs.size (DctO s.heap.objs.size #[] 0)) F2 H2 ∧ Rep M F2 H2 x (.tup l) ∧ Rep M F2 H2 y (.int z) ∧ okKey (.tup l) = true ∧ ∀ p H' F', Grow F H F' H' → H p = none → ¬ F' p → Own M F' H' p (.dct [(.tup l, .int z)]) → Q (.ref p) H') I1 ?A) fun ws s2 ⟨ps, H2, I2, rel, x, y, l, z, F2, ep, g2, rx, ry, ok, q⟩ => ?B))))
  case A =>
    have E1 := E.grow g0
    show tD M W O f σ _ _
    refine ⟨δ, F, E1, R.wp_mono (R.wp_bind w) (fun a ea w1 x H1 F1 g1 ra => ?_) fun n q H' F' gg => q H' F' (g0.trans gg)⟩
    show tD M W O g σ H1 _
    refine ⟨δ, F1, E1.grow g1, R.wp_mono (R.wp_bind w1) (fun b eb w2 y H2 F2 g2 rb => ?_) fun n q H2 F2 g2 => q H2 F2 ((g0.trans g1).trans g2)⟩
    cases a with
    | tup l =>
      cases b with
      | int z =>
        simp only at w2
        split at w2
        · rename_i ok
          exact ⟨x, y, l, z, F2, rfl, g1.trans g2, ra.grow g2, rb, ok, w2⟩
        · exact w2.elim
      | _ => exact w2.elim
    | _ => exact w2.elim
  case B =>
    subst ep
    obtain ⟨k', ek, hd⟩ := okKey_ex ok
    have hp2 : H2 s.heap.objs.size = some (DctO s.heap.objs.size #[] 0) := g2.1 _ _ upd_same
    cases ry
    cases rx with
    | tup q1 q2 =>
      cases rel with
      | @cons _ wv _ _ h t =>
        cases t
        obtain ⟨wk, wv⟩ := wv
        obtain ⟨hk1, hv1⟩ := h
        obtain rfl := hk1
        obtain ⟨tv, rfl⟩ := hv1
        obtain ⟨⟨⟨o2, ho2, hx2, hd2⟩, _⟩, _⟩ := (show ObjOk X.prog X.w H2 s2.heap s.heap.objs.size (DctO s.heap.objs.size #[] 0) from I2.hok _ _ hp2)
        refine ⟨[(k', _, .int z tv)], ⟨rfl, rfl, ⟨Rep.key I2.hok (.tup q1 q2) ek rfl, hd⟩, trivial⟩, ⟨o2, #[], 0, ho2, hx2, hd2, rfl, fun x hx => by simp at hx, List.nodup_nil⟩, fun h' tk dh' sb => ?_⟩
        obtain ⟨o', es', ep', ho', hx', hd', he', _, nd'⟩ := dh'
        have raw' : h'.DictRaw s.heap.objs.size es' ep' := ⟨o', ho', hx', hd'⟩
        have I3 : L2.Inv X pins σ (upd H2 s.heap.objs.size (DctO s.heap.objs.size es' ep')) { s2 with heap := h', toks := tk } :=
          I2.write (x := s.heap.objs.size) (e := s.heap.objs.size) (t' := tk) (by rw [hp2]; trivial) (.inl rfl) (fun b u hb hu => (sb.2 b hb).trans hu) ⟨o', ho'⟩ (dct_new raw' hsm)
        have nF2 : ¬ F2 s.heap.objs.size := fun z => by
          rcases g2.2.2.1 _ z with q | q
          · exact nF0 q
          · rw [upd_same] at q; cases q
        have re : RepEs M F2 H2 es'.toList [(.tup l, .int z)] := by
          rw [he']
          exact RepEs.mk hw (.cons ⟨ek, hd, .tup q1 q2, z, tv, rfl, rfl⟩ .nil) nd'
        have kk : Keep F2 H2 (upd H2 s.heap.objs.size (DctO s.heap.objs.size es' ep')) := by
          refine ⟨fun a us hF e => ?_, fun a us e => ?_, fun a o u e => ?_⟩
          · have ne : a ≠ s.heap.objs.size := fun z => nF2 (by rw [← z]; exact hF)
            rw [upd_ne ne]; exact e
          · rw [upd_ne (ne_of e hp2 (by intro z; cases z))]; exact e
          · rw [upd_ne (ne_of e hp2 (by intro z; cases z))]; exact e
        refine wpAny_pure ⟨.ref s.heap.objs.size, _, I3, rfl, q s.heap.objs.size _ F2 ?_ hfr nF2 ⟨es', ep', upd_same, re.mono kk fun _ z => z⟩⟩
        have gA := g0.trans g2
        refine ⟨fun a o e => ?_, fun a z => gA.2.1 a z, fun a z => gA.2.2.1 a z, fun a z => ?_⟩
        · rw [upd_ne (fun z => by rw [z, hfr] at e; cases e)]; exact gA.1 a o e
        · by_cases ha : a = s.heap.objs.size
          · rw [ha]; exact ⟨_, upd_same⟩
          · obtain ⟨o, e1⟩ := gA.2.2.2 a z
            exact ⟨o, by rw [upd_ne ha]; exact e1⟩
end
end CL

set_option maxHeartbeats 1000000
namespace CL
open PySem PySem.Spec PyProof.Rows L2
section
variable {X : Cx} {M : Md} {W : WX} {H0 : Hp} {F0 : Addr → Prop} {O O1 O' Ol : List Nat} {pos : Pos}
/-- a, b, c = x, y, z; y a new list that is owned -/
theorem ss_par3F (i j l : Nat) {x y z : Str} {a b c : Expr} {fs : DEnv → R (List D)} {px py pz pt : Pos} {kt k2 pt2} (hc : X.calm = true) (hN : X.N.Nodup) (ha : PA X [a, b, c] (tF M W O [false, true, false] fs)) (hij : i ≠ j := by decide) (hil : i ≠ l := by decide) (hjl : j ≠ l := by decide) (hO : O' = (j :: O.filter (· != i)).filter (· != l) := by rfl)
    (hi : X.N[i]? = some x := by rfl) (hj : X.N[j]? = some y := by rfl) (hl : X.N[l]? = some z := by rfl) (hx : X.env.scope.names.lookup x = some .local := by rfl) (hy : X.env.scope.names.lookup y = some .local := by rfl) (hz : X.env.scope.names.lookup z = some .local := by rfl)
    (hw : swappedStores [.Tuple [.Name x px, .Name y py, .Name z pz] kt pt] (.Tuple [a, b, c] k2 pt2) X.env = pure (some [x, y, z]) := by rfl)
    (hs : swapsWithSole [.Tuple [.Name x px, .Name y py, .Name z pz] kt pt] (.Tuple [a, b, c] k2 pt2) pos.line X.env = pure false := by rfl) :
    PS X (.Assign [.Tuple [.Name x px, .Name y py, .Name z pz] kt pt] (.Tuple [a, b, c] k2 pt2) pos) (tS M W H0 F0 O O' Ol fun δ => inA δ (fs δ) (set3 i j l δ)) := ps_imp (ps_par3 hc hN hi hj hl hij hil hjl hx hy hz ha hw hs) fun E σ H ⟨δ, F, I, w⟩ =>
  tF.inA I w fun ds vs H' F' _ g r w' => by
    subst hO
    unfold set3 at w'
    split at w'
    · cases r with
      | cons r1 r _ => cases r with
        | cons r2 r _ => cases r with
          | cons r3 r _ =>
            cases r
            obtain ⟨p, rfl, h0, nf, o⟩ := r2
            refine ⟨_, _, _, rfl, ?_⟩
            have hb : ∀ p, H p = none → H0 p = none := fun p h0 => by
              cases z : H0 p with
              | none => rfl
              | some o => rw [I.sub p o z] at h0; cases h0
            refine w' _ H' F' ((((I.grow g).set (i := i) r1).setOwn (i := j) nf o (hb p h0) fun k d hk q ne => ?_).set (i := l) r3)
            obtain ⟨hk1, hk2⟩ := List.mem_filter.mp hk
            have hk2 : k ≠ i := by simpa using hk2
            rw [List.getElem?_set_ne (Ne.symm hk2)] at q ⊢
            exact I.old h0 k d hk1 q
    · exact w'.elim
end
end CL

set_option maxHeartbeats 1000000
namespace CL
open PySem PySem.Spec PyProof.Rows L2

/-! ### lists of texts whose tokens are known -/
def TkV (n : Nat) (v : Value) : Prop := ∃ y t, v = .str y t ∧ 0 < t ∧ t < n
theorem TkV.mono {n m : Nat} {v : Value} (h : TkV n v) (k : n ≤ m) : TkV m v := let ⟨y, t, e, a, b⟩ := h; ⟨y, t, e, a, Nat.lt_of_lt_of_le b k⟩
def TkL (s : Shared) (D : Addr) (n : Nat) : Prop := ∃ its c, s.heap.get? D = some { cls := .type "list", data := .seq its c } ∧ its.size ≤ n ∧ ∀ v ∈ its.toList, TkV s.toks v
theorem TkL.keep {s s' : Shared} {D : Addr} {n : Nat} (h : TkL s D n) (k : ∀ o, s.heap.get? D = some o → s'.heap.get? D = some o) (t : s.toks ≤ s'.toks) : TkL s' D n :=
  let ⟨its, c, e, z, v⟩ := h; ⟨its, c, k _ e, z, fun u hu => (v u hu).mono t⟩
section
variable {X : Cx}
/-- what a raw list comprehension leaves -/
def RL (X : Cx) (pins : List (Addr × Obj)) (σ : L2.St) (H : Hp) (n : Nat) (u : Value) (s' : Shared) : Prop := ∃ D, u = .ref D ∧ L2.Inv X pins σ H s' ∧ FpOk X pins H D ∧ TkL s' D n
theorem raw_lc {E : Value → Shared → Prop} {pins : List (Addr × Obj)} {s : Shared} {σ : L2.St} {H : Hp} {scope : Scope} {own : List (Str × Nat)} {pos pos' p1 p2 p3 p4 p5 p6 cp : Pos} {j : Nat} {lx ix : Str} {kx : Expr} {i il : Nat} {a : Addr} {xs : List V} {k : Int}
    (hc : X.calm = true) (hN : X.N.Nodup) (I : L2.Inv X pins σ H s) (h0 : 1 ≤ s.toks) (ok : BlkOk X.N X.env.scope scope own) (ho : own.map (·.2) = [il])
    (hNi : X.N[i]? = some ix) (hvi : Vis X.env.scope ix) (hdi : (ix == ("__debug__" : Str)) = false) (hci : (ix == ("__classdict__" : Str)) = false)
    (hNl : X.N[il]? = some lx) (hdl : (lx == ("__debug__" : Str)) = false) (hcl : (lx == ("__classdict__" : Str)) = false)
    (hvl : ∀ (s : Shared) (H : Hp) (C : Addr) (cl : List (Str × Addr)) (fp : List Addr), Vis (X.blk s H scope (compEnvC scope cl C X.env) fp).env.scope lx)
    (hg : ∀ (s : Shared) (H : Hp) (C : Addr) (cl : List (Str × Addr)) (fp : List Addr), PG (X.blk s H scope (compEnvC scope cl C X.env) fp) (.Name lx p3) (gName il))
    (hk : ∀ (s : Shared) (H : Hp) (C : Addr) (cl : List (Str × Addr)) (fp : List Addr), PE (X.blk s H scope (compEnvC scope cl C X.env) fp) kx (tC (.int k)))
    (hks : PlainIx kx) (hm : behindInMarks .NotEq (.Constant (.str "") j cp) = false) (hs : ∀ x, foldedSetIterable (.Name ix p4) X.env x = pure x)
    (hσ : σ[i]? = some (some (.ref a))) (hq : SqT X.K H a xs) (hx : ∀ x ∈ xs, ∃ z : Str, x = .str z ∧ (z.cps.toList ≠ [] → ∃ c, L2.atI z.cps.toList k = some c) ∧ z.length ≤ sizeLine) :
    wpAny (model X.prog X.w) X.A (comprehension (.ListComp (.Subscript (.Name lx p1) kx p2) [⟨.Name lx p3, .Name ix p4, [.Compare (.Name lx p5) [.NotEq] [.Constant (.str "") j cp] p6], 0⟩] scope pos) scope X.env pos' (newList []) false (eval (.Name ix p4) X.env) none) (RL X pins σ H xs.length) E s := by
  have hfree : ∀ y ∈ scope.names, y.2 = .free → ∃ c, X.env.cells.lookup y.1 = some c := fun y hy e => by
    rcases ok.free y hy e with k | k
    · exact I.ok.has _ (.inl k)
    · exact I.ok.has _ (.inr k)
  refine wpAny_comprehension_free (use := none) rfl hs (closure_ok hfree) ok.kind (fun y hy e => by rw [ok.uniq y hy, e])
    (raw_name hNi hvi I hσ (fun u r => ?_) hdi hci)
  have e : u = Value.ref a := r
  subst e
  obtain ⟨tits, rv, tp, hz⟩ := I.tuple hq
  refine wpAny_pyIter_tuple (show s.heap.IsTuple a tits.toArray from tp) ?_
  generalize hit : s.heap.objs.size = it
  generalize hs2 : ({ s with heap := s.heap.push _ } : Shared) = s2
  have T : Turn X.prog X.w X.K (.Name lx p3) (Itt X.K a) [it] it (fun i h => h.IsTupleIter it a i) := turn_tuple a it
  have st2 : s2.heap.IsTupleIter it a 0 := by rw [← hs2, ← hit]; exact ⟨_, Heap.get?_push_size _ rfl, rfl, rfl⟩
  have I2 : L2.Inv X pins σ H s2 := by rw [← hs2]; exact I.kept (t' := s.toks) fun b o e => Heap.get?_push_of_some _ e
  have tk2 : s.toks ≤ s2.toks := by rw [← hs2]; exact Nat.le_refl _
  have sz2 : it < s2.heap.objs.size := by rw [← hs2, ← hit]; show _ < (s.heap.push _).objs.size; rw [Heap.size_push]; exact Nat.lt_succ_self _
  have f2 : FpOk X pins H it := I.fpOk (Nat.le_of_eq hit) (I.hok.fresh (Nat.le_of_eq hit))
  refine wpAny_newObj_type (newEnv_comp ?_) (by show 0 ≤ sizeLine; decide)
  generalize hD : s2.heap.objs.size = D
  have hDn : H D = none := I2.hok.fresh (Nat.le_of_eq hD)
  have fD : FpOk X pins H D := I2.fpOk (Nat.le_of_eq hD) hDn
  have neD : it ≠ D := by rw [← hD]; exact Nat.ne_of_lt sz2
  generalize hs3 : ({ s2 with heap := s2.heap.push { cls := .type "list", data := .seq ([] : List Value).toArray } } : Shared) = s3
  have tk3 : s.toks ≤ s3.toks := by rw [← hs3]; exact tk2
  have I3 : L2.Inv X pins σ H s3 := by rw [← hs3]; exact I2.kept (t' := s2.toks) fun b o e => Heap.get?_push_of_some _ e
  have h3 : s3.heap = s2.heap.push { cls := .type "list", data := .seq ([] : List Value).toArray } := by rw [← hs3]
  have D3 : s3.heap.get? D = some { cls := .type "list", data := .seq ([] : List Value).toArray 0 } := by rw [h3, ← hD]; exact Heap.get?_push_size _ rfl
  have f3 : ∀ b ∈ [it, D], FpOk X pins H b ∧ b < s3.heap.objs.size := fun b hb => by
    rw [h3, Heap.size_push]
    rcases List.mem_cons.1 hb with e | hb
    · subst e; exact ⟨f2, Nat.lt_succ_of_lt sz2⟩
    · have e : b = D := by simpa using hb
      subst e; exact ⟨fD, by rw [hD]; exact Nat.lt_succ_self _⟩
  have st3 : s3.heap.IsTupleIter it a 0 := T.keep _ _ _ st2 fun b _ o e => by rw [h3]; exact Heap.get?_push_of_some _ e
  have I4 := block_start I3 ok hN f3
  have pg := hg s3 H s3.heap.objs.size (cellsFrom (s3.heap.objs.size + 1) scope.names (cloFrom X.env.cells scope.names [])) [it, D]
  have pk := hk s3 H s3.heap.objs.size (cellsFrom (s3.heap.objs.size + 1) scope.names (cloFrom X.env.cells scope.names [])) [it, D]
  have vl := hvl s3 H s3.heap.objs.size (cellsFrom (s3.heap.objs.size + 1) scope.names (cloFrom X.env.cells scope.names [])) [it, D]
  show codeAny _ _ (.compStart (.ListComp (.Subscript (.Name lx p1) kx p2) [⟨.Name lx p3, .Name ix p4, [.Compare (.Name lx p5) [.NotEq] [.Constant (.str "") j cp] p6], 0⟩] scope pos) 0 (.ref it) (.ref D) (compEnvC scope (cellsFrom (s3.heap.objs.size + 1) scope.names (cloFrom X.env.cells scope.names [])) s3.heap.objs.size X.env)) (compPost (model X.prog X.w) X.A E none (RL X pins σ H xs.length) (.ref D) s3.heap.objs.size) { s3 with heap := pushCells (s3.heap.push { cls := .type "dict", data := .dict #[] }) scope.names }
  generalize hce : compEnvC scope (cellsFrom (s3.heap.objs.size + 1) scope.names (cloFrom X.env.cells scope.names [])) s3.heap.objs.size X.env = ce at I4 pg pk vl ⊢
  have cL : ce.locals = s3.heap.objs.size := by subst hce; rfl
  generalize hs4 : ({ s3 with heap := pushCells (s3.heap.push { cls := .type "dict", data := .dict #[] }) scope.names } : Shared) = s4 at I4 ⊢
  have keep4 : ∀ b o, s3.heap.get? b = some o → s4.heap.get? b = some o := fun b o e => by rw [← hs4]; exact pushCells_keeps _ _ _ _ (Heap.get?_push_of_some _ e)
  have tk4 : s3.toks ≤ s4.toks := by rw [← hs4]; exact Nat.le_refl _
  have st4 : s4.heap.IsTupleIter it a 0 := T.keep _ _ _ st3 fun b _ o e => keep4 b o e
  have D4 := keep4 _ _ D3
  have fb : ∀ {σ' : L2.St} {s' : Shared}, L2.Inv (X.blk s3 H scope ce [it, D]) [] σ' H s' → ∀ b ∈ [it, D], FpOk (X.blk s3 H scope ce [it, D]) [] H b := fun {σ' s'} I' b hb =>
    ⟨(f3 b hb).1.1, (I'.ok.exf b hb).1, I'.ok.exfs b hb, .inl hb, fun x c e => (I'.ok.exf b hb).2 x c e, fun p hp => absurd (show p ∈ ([] : List (Addr × Obj)) ++ [] from hp) (by simp)⟩
  have loop : codeAny (model X.prog X.w) X.A (.compLoop (.ListComp (.Subscript (.Name lx p1) kx p2) [⟨.Name lx p3, .Name ix p4, [.Compare (.Name lx p5) [.NotEq] [.Constant (.str "") j cp] p6], 0⟩] scope pos) 0 (.ref it) (.ref D) ce) (compPost (model X.prog X.w) X.A E none (RL X pins σ H xs.length) (.ref D) s3.heap.objs.size) s4 := by
    refine compLoop_any (fun n s' => s3.toks ≤ s'.toks ∧ ∃ i, L2.Inv (X.blk s3 H scope ce [it, D]) [] (wipe σ [il]) H s' ∧ s'.heap.IsTupleIter it a i ∧ n = xs.length - i ∧ i ≤ xs.length ∧ TkL s' D i) ?_ (xs.length - 0) ⟨tk4, 0, by rw [← ho]; exact I4, st4, rfl, Nat.zero_le _, _, _, D4, Nat.le_refl _, fun v hv => by simp at hv⟩
    rintro n s5 ⟨tk5, q, I5, st5, rfl, hqn, L5⟩
    by_cases hlt : q < xs.length
    · have ti := T.item (X.blk s3 H scope ce [it, D]) rfl rfl rfl hc q [] s5 _ H (fun _ _ => False) I5 (fun b hb => fb I5 b (by simp at hb; subst hb; simp)) st5 ⟨xs, xs[q], hq, by simp [hlt]⟩
      obtain ⟨its, c, d5, z5, v5⟩ := L5
      have I5p := I5.pinned (fp := [D]) (fun b hb => fb I5 b (List.mem_cons_of_mem _ hb)) (fun b hb => by simp at hb; subst hb; exact ⟨_, d5, fun v e => by cases e⟩)
      have tiD := T.item (X.blk s3 H scope ce [it, D]) rfl rfl rfl hc q _ s5 _ H (fun _ _ => False) I5p (fun b hb => by
        simp at hb; subst hb
        have z := fb I5 b (by simp)
        refine ⟨z.1, z.2.1, z.2.2.1, z.2.2.2.1, z.2.2.2.2.1, fun p hp => ?_⟩
        have hp : p ∈ pinsAt [D] s5.heap := by simpa using (show p ∈ ([] : List (Addr × Obj)) ++ ([] ++ pinsAt [D] s5.heap) from hp)
        have := (of_pinsAt hp).1
        simp at this
        rw [this]; exact Ne.symm neD) st5 ⟨xs, xs[q], hq, by simp [hlt]⟩
      refine thnT (Nat.le_refl s5.toks) tiD fun r s6 tk6 ⟨u, hr, h6⟩ => ?_
      subst hr
      refine thnT tk6 h6 fun _ s7 tk7 ⟨x, H7, I7, r7, ⟨eH, y7⟩, st7, n7⟩ => ?_
      rw [eH] at I7 n7
      clear eH H7
      have ex : xs[q]? = some x := y7 xs hq
      obtain ⟨z, ez, hzc, hzl⟩ := hx x (List.mem_of_getElem? ex)
      subst ez
      have d7 : s7.heap.get? D = some { cls := .type "list", data := .seq its c } := (I7.pin (D, _) (List.mem_append_right _ (List.mem_append_right _ (mem_pinsAt (by simp) d5)))).1
      have I7u := I7.unpinned (pins := [])
      have I7' := I7u.pinned (fp := [it, D]) (fb I7u) (fun b hb => by
        rcases List.mem_cons.1 hb with e | hb
        · subst e; exact T.obj _ _ st7 b (by simp)
        · have e : b = D := by simpa using hb
          subst e; exact ⟨_, d7, fun v e => by cases e⟩)
      have hil : il < (wipe σ [il]).length := by
        rw [wipe_length, I.len]
        obtain ⟨h, _⟩ := List.getElem?_eq_some_iff.1 hNl
        exact h
      refine thnT tk7 (pg.run _ s7 _ H (.str z) u (fun σ' H' => σ' = (wipe σ [il]).set il (some (.str z)) ∧ H' = H) I7' r7 ⟨rfl, rfl⟩) fun _ s8 tk8 ⟨σ8, H8, I8, e8, eH⟩ => ?_
      rw [e8, eH] at I8
      clear e8 eH σ8 H8
      have sl8 : ((wipe σ [il]).set il (some (V.str z)))[il]? = some (some (.str z)) := List.getElem?_set_self hil
      have tt : PTu (X.blk s3 H scope ce [it, D]) (.Compare (.Name lx p5) [.NotEq] [.Constant (.str "") j cp] p6) (tCmpS false (tVar il) "") := ptu_ne (peu_var hNl vl hdl hcl) hm
      refine thnT tk8 (wpAny_tests_one (tt.run _ s8 _ H (fun b H' => b = ((z.cps.toList == ("" : Str).cps.toList) == false) ∧ H' = H) I8 ⟨_, sl8, z, rfl, rfl, rfl⟩)) fun b s9 tk9 ⟨H9, I9, ⟨eb, eH⟩, u9, t9⟩ => ?_
      rw [eH] at I9
      clear u9 eH H9
      have fin : ∀ {s' : Shared} {σ' : L2.St}, L2.Inv (X.blk s3 H scope ce [it, D]) [] σ' H s' → (∀ j, j ≠ il → σ'[j]? = (wipe σ [il])[j]?) → σ'.length = σ.length → s3.toks ≤ s'.toks → s'.heap.IsTupleIter it a (q + 1) → TkL s' D (q + 1) → ∃ m, m < xs.length - q ∧ s3.toks ≤ s'.toks ∧ ∃ i, L2.Inv (X.blk s3 H scope ce [it, D]) [] (wipe σ [il]) H s' ∧ s'.heap.IsTupleIter it a i ∧ m = xs.length - i ∧ i ≤ xs.length ∧ TkL s' D i := fun {s' σ'} I' hσ' hl' tk' st' L' => by
        refine ⟨xs.length - (q + 1), by omega, tk', q + 1, I'.weak (by rw [wipe_length, hl']) (fun j v e => ?_), st', rfl, hlt, L'⟩
        by_cases hj : j = il
        · subst hj
          exact absurd (wipe_some e).2 (by simp)
        · rw [hσ' j hj]; exact e
      have pin9 : ∀ {s' : Shared}, L2.Inv (X.blk s3 H scope ce [it, D]) ([] ++ pinsAt [it, D] s7.heap) ((wipe σ [il]).set il (some (.str z))) H s' → s'.heap.IsTupleIter it a (q + 1) ∧ s'.heap.get? D = some { cls := .type "list", data := .seq its c } := fun {s'} I' => by
        have pin' : ∀ b ∈ [it, D], ∀ o, s7.heap.get? b = some o → s'.heap.get? b = some o := fun b hb o e => (I'.pin (b, o) (List.mem_append_right _ (List.mem_append_right _ (mem_pinsAt hb e)))).1
        exact ⟨T.keep _ _ _ st7 fun b hb o e => pin' b (by simp at hb; subst hb; simp) o e, pin' D (by simp) _ d7⟩
      have hset : ∀ j, j ≠ il → ((wipe σ [il]).set il (some (V.str z)))[j]? = (wipe σ [il])[j]? := fun j hj => List.getElem?_set_ne (Ne.symm hj)
      have hsl : ((wipe σ [il]).set il (some (V.str z))).length = σ.length := by rw [List.length_set, wipe_length]
      have hz5 : its.size ≤ sizeLine := by
        have := rv.length
        omega
      cases b with
      | false =>
        simp only [Bool.false_eq_true, if_false]
        obtain ⟨a1, a2⟩ := pin9 I9
        exact fin (I9.unpinned (pins := [])) hset hsl (Nat.le_trans tk5 tk9) a1 ⟨its, c, a2, Nat.le_succ_of_le z5, fun v hv => (v5 v hv).mono tk9⟩
      | true =>
        simp only [if_true]
        have hne : z.cps.toList ≠ [] := fun h => by
          rw [h] at eb
          have : (([] : List Nat) == ("" : Str).cps.toList) = true := by decide
          rw [this] at eb
          cases eb
        obtain ⟨cc, hcc⟩ := hzc hne
        have elt : wpAny (model X.prog X.w) X.A (eval (.Subscript (.Name lx p1) kx p2) ce) (fun u s' => L2.Inv (X.blk s3 H scope ce [it, D]) ([] ++ pinsAt [it, D] s7.heap) ((wipe σ [il]).set il (some (.str z))) H s' ∧ s3.toks ≤ s'.toks ∧ s9.toks ≤ s'.toks ∧ TkV s'.toks u) (fun _ _ => False) s9 := by
          refine Subscript_ (raw_name (X := X.blk s3 H scope ce [it, D]) hNl vl I9 sl8 (fun u r => ?_) hdl hcl)
          obtain ⟨t, rfl⟩ := r
          refine thnT (Nat.le_refl s9.toks) (pk.run _ s9 _ H (fun v H' => v = .int k ∧ H' = H) I9 ⟨rfl, rfl⟩) fun w s10 tk10 ⟨y, H10, I10, r10, ey, eH⟩ => ?_
          rw [eH] at I10
          subst ey
          obtain ⟨t', rfl⟩ := r10
          obtain ⟨jj, h1, h2, h3', h4, h5⟩ := atI_get hcc
          have hl : z.cps.toList.length = z.length := by simp [Str.length]
          rw [hl] at h1 h4 h5
          have hn := line63
          refine tail_any (typeIs_str s10 z t) slot_str_getitem.lookup (PySem.P.getItem_str (c := cc) (by
            have e1 : decide (k < -(2 ^ 63 : Int)) = false := decide_eq_false (by omega)
            have e2 : decide (k ≥ 2 ^ 63) = false := decide_eq_false (by omega)
            rw [e1, e2, Bool.or_false]) (by rw [h1]; simpa using h2) ⟨I10.tok _, ?_, ?_, _, _, rfl, ?_, Nat.lt_succ_self _⟩) (hks _ _)
          · show s3.toks ≤ s10.toks + 1; omega
          · show s9.toks ≤ s10.toks + 1; omega
          · exact Nat.lt_of_lt_of_le Nat.zero_lt_one (Nat.le_trans h0 (Nat.le_trans tk3 (Nat.le_trans tk5 (Nat.le_trans tk9 tk10))))
        refine thnF elt fun v s10 ⟨I10, tk10, tk10', v10⟩ => ?_
        obtain ⟨a1, a2⟩ := pin9 I10
        refine append_at (hsz := hz5) a2 fun h' sb ho' => ?_
        have I11 : L2.Inv (X.blk s3 H scope ce [it, D]) [] ((wipe σ [il]).set il (some (.str z))) H { s10 with heap := h' } := by
          have I10u := I10.unpinned (pins := [])
          obtain ⟨f0, f1, f2, f3, f4, f5⟩ := fb I10u D (by simp)
          exact I10u.turned (t' := s10.toks) (fun b o hb e => (sb.2 b hb).trans e) f0 f1 f3 f4 f5
        refine fin I11 hset hsl tk10 (T.keep _ _ _ a1 fun b hb o e => ?_) ⟨its.push v, c + 1, ho', by rw [Array.size_push]; omega, fun w hw => ?_⟩
        · simp at hb; subst hb
          exact (sb.2 b neD).trans e
        · rw [Array.toList_push] at hw
          rcases List.mem_append.1 hw with hw | hw
          · exact (v5 w hw).mono (by show s5.toks ≤ s10.toks; omega)
          · simp at hw; subst hw; exact v10
    · have td := T.done (X.blk s3 H scope ce [it, D]) rfl rfl rfl hc q [] s5 _ H (fun _ _ => False) I5 (fun b hb => fb I5 b (by simp at hb; subst hb; simp)) st5 ⟨xs, hq, by omega⟩
      obtain ⟨its, c, d5, z5, v5⟩ := L5
      have I5p := I5.pinned (fp := [D]) (fun b hb => fb I5 b (List.mem_cons_of_mem _ hb)) (fun b hb => by simp at hb; subst hb; exact ⟨_, d5, fun v e => by cases e⟩)
      have tdD := T.done (X.blk s3 H scope ce [it, D]) rfl rfl rfl hc q _ s5 _ H (fun _ _ => False) I5p (fun b hb => by
        simp at hb; subst hb
        have z := fb I5 b (by simp)
        refine ⟨z.1, z.2.1, z.2.2.1, z.2.2.2.1, z.2.2.2.2.1, fun p hp => ?_⟩
        have hp : p ∈ pinsAt [D] s5.heap := by simpa using (show p ∈ ([] : List (Addr × Obj)) ++ ([] ++ pinsAt [D] s5.heap) from hp)
        have := (of_pinsAt hp).1
        simp at this
        rw [this]; exact Ne.symm neD) st5 ⟨xs, hq, by omega⟩
      refine thnT (Nat.le_refl s5.toks) tdD fun r s6 tk56 ⟨hr, I6p⟩ => ?_
      subst hr
      have d6 : s6.heap.get? D = some { cls := .type "list", data := .seq its c } := (I6p.pin (D, _) (List.mem_append_right _ (List.mem_append_right _ (mem_pinsAt (by simp) d5)))).1
      have I6 := I6p.unpinned (pins := [])
      have I7 : L2.Inv X pins σ H s6 := I3.call' (ch := [it, D]) I6.os I6.base I6.hok I6.bare fun b hb => ⟨(f3 b hb).1.2.2.2.1, (f3 b hb).1.2.1, (f3 b hb).1.2.2.2.2.1, (f3 b hb).1.2.2.2.2.2⟩
      have nC : H s3.heap.objs.size = none := by
        have z : H ce.locals = none := I6.free
        rw [cL] at z
        exact z
      obtain ⟨m, hn, _⟩ := I6.loc
      have hn : s6.heap.Ns ce.locals m := hn
      rw [cL] at hn
      obtain ⟨g0, g1, g2, g3, g4, g5⟩ := I3.fpOk (b := s3.heap.objs.size) (Nat.le_refl _) nC
      have ltD : D < s3.heap.objs.size := (f3 D (by simp)).2
      refine ⟨m, hn, fun h' sb => ⟨D, rfl, I7.turned (t' := s6.toks) (fun b ob hb e => (sb.2 b hb).trans e) nC g1 g3 g4 g5, fD, its, c, (sb.2 D (Nat.ne_of_lt ltD)).trans d6, by omega, fun v hv => (v5 v hv).mono tk56⟩⟩
  exact codeAny_compStart_list loop (T.self X.A 0 _ _ _ st4 loop)
end
end CL

set_option maxHeartbeats 1000000
namespace CL
open PySem PySem.Spec PyProof.Rows L2

section
variable {X : Cx} {E : Value → Shared → Prop}
theorem thnK {α : Type} {t : Sem α} {Q Q' : α → Shared → Prop} {M : Model} {A : Around} {s : Shared} {n : Nat} (hn : n ≤ s.toks) (h : wpAny M A t Q E s) (hQ : ∀ a s', n ≤ s'.toks → Q a s' → Q' a s') : wpAny M A t Q' E s :=
  wpAny_mono (PySem.wpAny_toks_of hn h) (fun a s' z => hQ a s' z.1 z.2) fun _ _ z => z.2
theorem raw_add {pins : List (Addr × Obj)} {s : Shared} {σ : L2.St} {H : Hp} {a b : Expr} {pos : Pos} {n m : Nat} (I : L2.Inv X pins σ H s) (h0 : 1 ≤ s.toks) (hnm : n + m ≤ sizeLine)
    (ha : ∀ pins s, L2.Inv X pins σ H s → 1 ≤ s.toks → wpAny (model X.prog X.w) X.A (eval a X.env) (RL X pins σ H n) E s)
    (hb : ∀ pins s, L2.Inv X pins σ H s → 1 ≤ s.toks → wpAny (model X.prog X.w) X.A (eval b X.env) (RL X pins σ H m) E s) :
    wpAny (model X.prog X.w) X.A (eval (.BinOp a .Add b pos) X.env) (RL X pins σ H (n + m)) E s := by
  refine wpAny_BinOp (thnK h0 (ha pins s I h0) fun u s1 k1 ⟨D, e, I1, f1, its, c, d1, z1, v1⟩ => ?_)
  subst e
  have I1p := I1.pinned (fp := [D]) (fun b hb => by simp at hb; subst hb; exact f1) (fun b hb => by simp at hb; subst hb; exact ⟨_, d1, fun v e => by cases e⟩)
  refine thnK (Nat.le_refl s1.toks) (hb _ s1 I1p k1) fun u s2 k2 ⟨D2, e, I2, f2, its2, c2, d2', z2, v2⟩ => ?_
  subst e
  have d2 : s2.heap.get? D = some { cls := .type "list", data := .seq its c } := (I2.pin (D, _) (List.mem_append_right _ (List.mem_append_right _ (mem_pinsAt (by simp) d1)))).1
  have I2u := I2.unpinned (pins := pins)
  refine PySem.P.add_list d2 d2' ?_ (by omega)
  refine ⟨_, rfl, I2u.kept (t' := s2.toks) fun b o e => Heap.get?_push_of_some _ e, I2u.fpOk (Nat.le_refl _) (I2u.hok.fresh (Nat.le_refl _)), its ++ its2, 0, Heap.get?_push_size _ rfl, by rw [Array.size_append]; omega, fun v hv => ?_⟩
  rw [Array.toList_append] at hv
  rcases List.mem_append.1 hv with hv | hv
  · exact (v1 v hv).mono k2
  · exact v2 v hv
theorem strsAre_tk {n : Nat} : ∀ {l : List Value}, (∀ v ∈ l, TkV n v) → StrsAre l (l.map fun v => keyS (0, v))
  | [], _ => .nil
  | v :: l, h => by
    obtain ⟨y, t, rfl, _⟩ := h v List.mem_cons_self
    exact .cons y t (strsAre_tk fun u hu => h u (List.mem_cons_of_mem _ hu))
/-- found = e; return sorted(set(found)) -/
theorem raw_body {pins : List (Addr × Obj)} {s : Shared} {σ : L2.St} {H : Hp} {e : Expr} {fx : Str} {i n : Nat} {p1 p2 p3 p4 p5 p6 p7 p8 : Pos} (hc : X.calm = true) (hN : X.N.Nodup) (I : L2.Inv X pins σ H s) (h0 : 1 ≤ s.toks) (hn : n < 63)
    (he : wpAny (model X.prog X.w) X.A (eval e X.env) (RL X pins σ H n) E s)
    (hi : X.N[i]? = some fx) (hy : X.env.scope.names.lookup fx = some .local) (hdi : (fx == ("__debug__" : Str)) = false) (hci : (fx == ("__classdict__" : Str)) = false)
    (hs : swapsWith e (some (.Name fx p1)) p2.line X.env = pure false) (hm : X.mg "sorted" = none) (hm2 : X.mg "set" = none) (hg : Gl X "sorted") (hg2 : Gl X "set")
    (na : starEach [.Name fx p3] X.env = (false, eval (.Name fx p3) X.env) :: starEach [] X.env) (hs1 : starEach [.Call (.Name "set" p4) [.Name fx p3] [] p5] X.env = (false, eval (.Call (.Name "set" p4) [.Name fx p3] [] p5) X.env) :: starEach [] X.env)
    (hpl : ∀ pos : Pos, (backTo pos (starEach [] X.env)).any (·.1) = false) (hnil : ∀ pos : Pos, backTo pos (starEach [] X.env) = []) :
    wpAny (model X.prog X.w) X.A (execs [.Assign [.Name fx p1] e p2, .Return (some (.Call (.Name "sorted" p6) [.Call (.Name "set" p4) [.Name fx p3] [] p5] [] p7)) p8] X.env) (fun fl s' => ∃ D, fl = .ret (.ref D) ∧ TkL s' D n) E s := by
  refine wpAny_execs_cons (wpAny_Assign_Name (thnK h0 he fun u s1 k1 ⟨D, eu, I1, f1, its, c, d1, z1, v1⟩ => ?_) hs)
  subst eu
  have I1p := I1.pinned (fp := [D]) (fun b hb => by simp at hb; subst hb; exact f1) (fun b hb => by simp at hb; subst hb; exact ⟨_, d1, fun v e => by cases e⟩)
  refine thnK (Nat.le_refl s1.toks) (store_ok (Q := fun _ s2 => L2.Inv X (pins ++ pinsAt [D] s1.heap) (σ.set i (some (.ref D))) H s2) I1p hN hi (.inl hy) (v := .ref D) rfl (fun s2 I2 => I2) (.inr hy)) fun _ s2 k2 I2 => ?_
  have d2 : s2.heap.get? D = some { cls := .type "list", data := .seq its c } := (I2.pin (D, _) (List.mem_append_right _ (List.mem_append_right _ (mem_pinsAt (by simp) d1)))).1
  have hil : i < σ.length := by
    rw [I.len]
    exact (List.getElem?_eq_some_iff.1 hi).1
  have sl : (σ.set i (some (V.ref D)))[i]? = some (some (.ref D)) := List.getElem?_set_self hil
  refine wpAny_execs_cons (wpAny_Return_some ?_)
  refine wpAny_Call_Name_kw (ld_blt (u := .builtin "sorted") I2 hg hm (by decide +kernel) ?_)
  refine PyProof.Rows.callWith_builtin1 ?_ hs1 (hpl _)
  rw [hs1]
  show wpAny _ _ (spliced ((false, eval (.Call (.Name "set" p4) [.Name fx p3] [] p5) X.env) :: backTo p7 (starEach [] X.env))) _ _ s2
  refine Calls.spliced_cons (wpAny_Call_Name_kw (ld_blt (u := .type "set") I2 hg2 hm2 (by decide +kernel) ?_))
  refine PyProof.Rows.callWith_type1 ?_ na (hpl _)
  rw [na]
  show wpAny _ _ (spliced ((false, eval (.Name fx p3) X.env) :: backTo p5 (starEach [] X.env))) _ _ s2
  refine Calls.spliced_cons (raw_name hi (.inl hy) I2 sl (fun u r => ?_) hdi hci)
  have eu : u = Value.ref D := r
  subst eu
  rw [hnil]
  refine Calls.spliced_nil ?_
  have hk : ∀ v ∈ its.toList, TkV s2.toks v := fun v hv => (v1 v hv).mono k2
  have hsz : its.size = (its.toList.map fun v => keyS (0, v)).length := by simp
  refine thnK (Nat.le_refl s2.toks) (call_set_lstS (P := X.prog) (w := X.w) (Vp := TkV s2.toks) (Q := fun v s3 => ∃ c2, v = .ref s2.heap.objs.size ∧ SetS X.prog X.w (TkV s2.toks) s3.heap s2.heap.objs.size (fun j => decide (j ∈ its.toList.map fun v => keyS (0, v))) c2 ∧ c2 ≤ its.size) (its.toList.map fun v => keyS (0, v)) (I2.ok.hd hc) ⟨_, d2, rfl, _, rfl⟩ (strsAre_tk hk) hk (by unfold scanBound; rw [← hsz]; omega) fun h' tk c2 hS hcl hkk => ⟨c2, rfl, hS, by rw [hsz]; exact hcl⟩) fun v s3 k3 ⟨c2, ev, hS, hc2⟩ => ?_
  subst ev
  refine Calls.spliced_nil ?_
  refine thnK (Nat.le_refl s3.toks) (sorted_setS (Q := fun v s4 => ∃ (p : Addr) (out : Array Value) (c : Nat), v = .ref p ∧ s4.heap.get? p = some (seqObj "list" out c) ∧ out.size ≤ n ∧ ∀ v ∈ out.toList, TkV s2.toks v) hS (I2.ok.hd hc) (by omega) fun s' p out c ys _ _ _ _ hg hi2 _ _ _ hl hv => ⟨p, out, c, rfl, hg, ?_, hv⟩) fun v s4 k4 ⟨p, out, c, ev, hg, hz, hv⟩ => ?_
  · have : out.toList.length = ys.length := by
      have len : ∀ {l : List Value} {ks : List Str}, StrsAre l ks → l.length = ks.length := fun {l ks} h => by
        induction h with
        | nil => rfl
        | cons _ _ _ ih => simp [ih]
      exact len hi2
    rw [Array.length_toList] at this
    omega
  · subst ev
    exact ⟨p, rfl, out, c, hg, hz, fun v h => (hv v h).mono (Nat.le_trans k3 k4)⟩
end
/-- a def that hands out a list of texts whose tokens are out -/
structure FnR (P : Program) (w : World) (M : Md) (base : Heap) (k : Nat) (x : Str) : Prop where
  ex : ∃ (f : Addr) (fd : FuncData) (ps : List Str), M.mg x = some (.ref f) ∧ PySem.W.keepIn M.K (.ref f) = true ∧ Binds M.K fd ps [] ∧ ps.length = 1 ∧
    ∀ (A : Around) (outer : List Env) (s : Shared) (H : Hp) (args : Args) (a : Addr) (xs : List V), Room k A → Env0 P w M.K M.mg base A outer s H → BindsTo s fd args (ps.zip [.ref a]) → SqT M.K H a xs → (∀ x ∈ xs, ∃ z : Str, x = .str z ∧ z.length ≤ sizeLine) → xs.length ≤ 31 →
      codeAny (model P w) A (.call (.ref f) args) (fun r s' => ∃ D n, r = .ok (.ret (.ref D)) ∧ TkL s' D n) s
theorem FnR.mono {P : Program} {w : World} {M : Md} {base : Heap} {i k : Nat} {x : Str} (F : FnR P w M base i x) (h : i ≤ k) : FnR P w M base k x := by
  obtain ⟨f, fd, ps, h1, h2, h3, h4, h5⟩ := F.ex
  exact ⟨f, fd, ps, h1, h2, h3, h4, fun A outer s H args a xs hr => h5 A outer s H args a xs (hr.mono h)⟩
theorem fn_mkR {M : Md} {P : Program} {w : World} {base : Heap} {x qual : Str} {st : Stmt} {fa : Addr} {fd : FuncData} {N ps : List Str} {k : Nat} (hmg : M.mg x = some (.ref fa)) (F : Fun M.K x qual st fa fd) (S : FnScope N ps (defScope st))
    (hb : Binds M.K fd ps []) (hnc : ((defScope st).names.all fun y => match y.2 with | .cell => false | _ => true) = true) (hps : ps.length = 1)
    (body : ∀ (cdv : Value) (A : Around) (outer : List Env) (s : Shared) (H : Hp) (E : XK), Room k (A.deeper (envOfC qual (defScope st) s.heap.objs.size fa cdv)) →
      ∀ (s1 : Shared) (σ : L2.St) (a : Addr) (xs : List V), L2.Inv (cxOf (L2.CX P w) P w M.K M.mg base N qual (defScope st) fa cdv A outer s H E) [] σ H s1 → 1 ≤ s1.toks → σ[0]? = some (some (.ref a)) → SqT M.K H a xs → (∀ x ∈ xs, ∃ z : Str, x = .str z ∧ z.length ≤ sizeLine) → xs.length ≤ 31 →
        wpAny (model P w) (A.deeper (envOfC qual (defScope st) s.heap.objs.size fa cdv)) (execs (defBody st) (envOfC qual (defScope st) s.heap.objs.size fa cdv)) (fun fl s' => ∃ D, fl = .ret (.ref D) ∧ TkL s' D (xs.length + xs.length)) (fun _ _ => False) s1) :
    FnR P w M base (k + 1) x := by
  have nc : ∀ y ∈ (defScope st).names, y.2 ≠ .cell := fun y hy z => by
    have := List.all_eq_true.1 hnc y hy
    rw [z] at this
    exact Bool.noConfusion this
  refine ⟨fa, fd, ps, hmg, F.kp, hb, hps, fun A outer s H args a xs hr e0 hbt hq hx hl => ?_⟩
  obtain ⟨oc, od, kV, doc, pm, an, cdv, ct, osl, rfl, lk, hcd⟩ := F.ex
  have hul : [Value.ref a].length = ps.length := hps.symm
  have KX : M.K.In s.heap := e0.mod.kin.keeps fun b o e => (e0.bs b o e).1
  have nlim : s.heap.NoLimit := e0.mod.nolimit.keeps fun b o e => (e0.bs b o e).1
  have hloc : ∀ y ∈ ps.zip [Value.ref a], (defScope st).names.lookup y.1 = some .local := fun ⟨n, v⟩ hy => by
    rcases S.par n (List.of_mem_zip hy).1 with q | q
    · exact q
    · exact absurd rfl (nc _ (PySem.mem_of_lookup q))
  refine codeAny_call_function hr.depth (KX _ _ lk) rfl S.co S.gen rfl (PySem.W.codeRec_of KX hcd) (hbt _ _ _ _ ?_)
  have hkind : ∀ y ∈ ps.zip [Value.ref a], (defScope st).names.lookup y.1 = some .local ∨ ((defScope st).names.lookup y.1 = some .cell ∧ ((cellsFrom (s.heap.objs.size + 1) (defScope st).names []).lookup y.1).isSome = true) := fun y hy => .inl (hloc y hy)
  refine wpAny_newFunctionEnv nc hloc (fun h1 hns hsb => ?_) S.kind
  have hz : (ps.zip [Value.ref a]).length = 1 := by rw [List.length_zip, hps]; rfl
  have keep : ∀ b o, s.heap.get? b = some o → h1.get? b = some o := fun b o e => hsb.extBut b o (Nat.ne_of_lt (Heap.lt_size e)) (Heap.get?_push_of_some _ e)
  have hcl : cellsFrom (s.heap.objs.size + 1) (defScope st).names [] = [] := cells_none _ _ _ nc
  have hkl : ∀ y ∈ ps.zip [Value.ref a], (envOfC qual (defScope st) s.heap.objs.size fa cdv).kindOf y.1 = some .local := fun y hy => by
    first
    | exact hloc y hy
    | (simp only [Env.kindOf]; exact hloc y hy)
    | (unfold Env.kindOf; rw [if_pos S.kind]; exact hloc y hy)
    | simpa [Env.kindOf, envOfC, newEnv, S.kind] using hloc y hy
  have hm : (bindL (envOfC qual (defScope st) s.heap.objs.size fa cdv).kindOf (ps.zip [Value.ref a]) fun _ => none) = fun x => (ps.zip [Value.ref a]).reverse.lookup x := by
    funext y
    rw [bindL_loc _ _ hkl y]
    cases (ps.zip [Value.ref a]).reverse.lookup y <;> rfl
  have xx : InCallC s s.heap.objs.size (bindL (envOfC qual (defScope st) s.heap.objs.size fa cdv).kindOf (ps.zip [Value.ref a]) fun _ => none) (cellsFrom (s.heap.objs.size + 1) (defScope st).names [])
      (bindC (envOfC qual (defScope st) s.heap.objs.size fa cdv).kindOf (ps.zip [Value.ref a]) fun _ => none) ({ s with heap := h1, toks := s.toks + (ps.zip [Value.ref a]).length } : Shared) := by
    rw [hm, hcl]
    exact ⟨⟨⟨_, _, rfl⟩, hns, keep, Nat.le_refl _⟩, fun n c hc => absurd hc (by simp), .nil, fun n c hc => absurd hc (by simp)⟩
  have henv : newEnv (defScope st) s.heap.objs.size mainGlobals [] (qual ++ ".<locals>.") (some fa) cdv none builtinsNs = envOfC qual (defScope st) s.heap.objs.size fa cdv := by
    unfold envOfC
    rw [hcl] <;> rfl
  have hto : 1 ≤ ({ s with heap := h1, toks := s.toks + (ps.zip [Value.ref a]).length } : Shared).toks := by
    show 1 ≤ s.toks + (ps.zip [Value.ref a]).length
    omega
  show ({ s with heap := h1, toks := s.toks + (ps.zip [Value.ref a]).length } : Shared).heap.NoLimit ∧ codeAny (model P w) A (.func (defBody st) (newEnv (defScope st) s.heap.objs.size mainGlobals [] (qual ++ ".<locals>.") (some fa) cdv none builtinsNs)) _ ({ s with heap := h1, toks := s.toks + (ps.zip [Value.ref a]).length } : Shared)
  rw [henv]
  generalize ({ s with heap := h1, toks := s.toks + (ps.zip [Value.ref a]).length } : Shared) = s1 at xx hto ⊢
  refine ⟨nlim.keeps xx.toInCall.keep, codeAny_func ?_⟩
  have I : L2.Inv (cxOf (L2.CX P w) P w M.K M.mg base N qual (defScope st) fa cdv A outer s H (fun _ _ _ => True)) [] (L2.start N [.ref a]) H s1 := inv_start S hr.hd e0 (by rw [hps]; rfl) (.cons (a := V.ref a) (b := Value.ref a) rfl .nil) xx
  have h0N : 0 < N.length := by
    have := congrArg List.length S.pre
    rw [List.length_take] at this
    omega
  have s0 : (L2.start N [V.ref a])[0]? = some (some (.ref a)) := by
    unfold L2.start
    simp
  refine wpAny_mono (body cdv A outer s H (fun _ _ _ => True) (hr.deeper _) s1 _ a xs I hto s0 hq hx hl) (fun fl s' ⟨D, ef, hD⟩ => ?_) fun e s' hs => hs.elim
  subst ef
  exact ⟨D, _, rfl, hD⟩
end CL

set_option maxHeartbeats 1000000
namespace CL
open PySem PySem.Spec PyProof.Rows L2

/-! ### x = f(y)[0], f hands out texts whose tokens are out -/
def headOf (m : List D → R D) (il : Nat) : DEnv → R D := fun δ => match δ[il]? with
  | some (some (.tup l)) => if (allStr l).isSome && decide (l.length ≤ 31) then (match m [.tup l] with | .ok (.lst (d :: _)) => .ok d | _ => .bad) else .bad
  | _ => .bad
theorem headOf_ok {m : List D → R D} {il : Nat} {δ : DEnv} {d : D} (h : headOf m il δ = .ok d) : ∃ l ss ds, δ[il]? = some (some (.tup l)) ∧ allStr l = some ss ∧ l.length ≤ 31 ∧ m [.tup l] = .ok (.lst (d :: ds)) := by
  unfold headOf at h
  split at h
  · rename_i l e
    split at h
    · rename_i hc
      simp only [Bool.and_eq_true, decide_eq_true_eq] at hc
      obtain ⟨ss, hss⟩ := Option.isSome_iff_exists.1 hc.1
      split at h
      · rename_i em
        cases h
        exact ⟨l, ss, _, e, hss, hc.2, em⟩
      · cases h
    · cases h
  · cases h
theorem headOf_wp {m : List D → R D} {il : Nat} {δ : DEnv} {Q : D → Prop} {E : Nat → Prop} (h : (headOf m il δ).wp Q E) : ∃ d, headOf m il δ = .ok d ∧ Q d := by
  cases e : headOf m il δ with
  | ok d => rw [e] at h; exact ⟨d, rfl, h⟩
  | bad => rw [e] at h; exact h.elim
  | exc n =>
    exfalso
    unfold headOf at e
    split at e
    · split at e
      · split at e <;> cases e
      · cases e
    · cases e
section
variable {X : Cx} {M : Md} {W : WX} {H0 : Hp} {F0 : Addr → Prop} {O O1 O' Ol : List Nat} {g2 : DEnv → Out} {fs : DEnv → R (List D)} {sts : List Stmt} {pos : Pos} {P : Shared → Prop}
theorem raw_head (il : Nat) {k : Nat} {fx lx : Str} {m : List D → R D} {p pl pc cp : Pos} {jj : Nat} (Fd : FnD X.prog X.w M X.base k fx m) (Fr : FnR X.prog X.w M X.base k fx) (hM : On X M) (hr : Room k X.A) (tk : Takes X W) (hO : O.contains il = false) (hg : Gl X fx)
    (hNl : X.N[il]? = some lx) (hvl : Vis X.env.scope lx) (hdb : (fx == ("__debug__" : Str)) = false) (hdl : (lx == ("__debug__" : Str)) = false) (hcl : (lx == ("__classdict__" : Str)) = false)
    (he : starEach [.Name lx pl] X.env = (false, eval (.Name lx pl) X.env) :: starEach [] X.env) (hpl : (backTo pc (starEach [] X.env)).any (·.1) = false) (hnil : backTo pc (starEach [] X.env) = []) (hix : PlainIx (.Constant (.int 0) jj cp))
    {pins : List (Addr × Obj)} {s : Shared} {σ : L2.St} {H : Hp} {Q : VK} (I : L2.Inv X pins σ H s) (h : tD M W O (headOf m il) σ H Q) :
    wpAny (model X.prog X.w) X.A (eval (.Subscript (.Call (.Name fx p) [.Name lx pl] [] pc) (.Constant (.int 0) jj cp) pos) X.env) (fun u s' => EP X pins σ Q u s' ∧ TkV s'.toks u) X.xe s := by
  obtain ⟨δ, F, E, w⟩ := h
  obtain ⟨d, ed, w⟩ := headOf_wp w
  obtain ⟨l, ss, ds, el, hss, h31, em⟩ := headOf_ok ed
  obtain ⟨v, ev, rv⟩ := E.fr il _ (by intro h; simp [h] at hO) el
  cases rv with
  | @tup a xs _ ha hxs =>
    have hK : X.K = M.K := hM.K
    have hx : ∀ x ∈ xs, ∃ z : Str, x = .str z ∧ z.length ≤ sizeLine := by
      rw [allStr_eq hss] at hxs
      obtain ⟨e1, hok⟩ := hxs.strs
      intro x hx
      rw [e1] at hx
      obtain ⟨z, hz, rfl⟩ := List.mem_map.1 hx
      obtain ⟨t, ht, rfl⟩ := List.mem_map.1 hz
      refine ⟨_, rfl, ?_⟩
      have := (hok t ht).1
      rw [str_len, lim_eq]
      exact this
    have hlen : xs.length ≤ 31 := by rw [hxs.length]; exact h31
    have callPE : PE X (.Call (.Name fx p) [.Name lx pl] [] pc) (tD M W O (callV m (consA (getV il) nilA))) := sd_call Fd hM hr tk (sa_cons (sd_var il hO hNl hvl hdl hcl) sa_nil he) hg hdb he hpl
    have run1 := callPE.run pins s σ H (fun v H1 => ∃ F1, Grow F H F1 H1 ∧ Rep M F1 H1 v (.lst (d :: ds))) I ⟨δ, F, E, by
      have : callV m (consA (getV il) nilA) δ = .ok (.lst (d :: ds)) := by
        unfold callV consA nilA getV
        rw [el]
        exact em
      rw [this]
      exact fun v H' F' g r => ⟨F', g, r⟩⟩
    obtain ⟨fa, fd, ps, h1, h2, h3, hp1, h5⟩ := Fr.ex
    rw [← hM.K] at h2 h3
    rw [← hM.mg] at h1
    have run2 : wpAny (model X.prog X.w) X.A (eval (.Call (.Name fx p) [.Name lx pl] [] pc) X.env) (fun u s' => ∃ D n, u = .ref D ∧ TkL s' D n) (fun _ _ => False) s := by
      refine wpAny_Call_Name_kw (ld_glob I hg h1 ?_ hdb)
      refine PySem.W.callWith_K (h₀ := X.base) I.ok.mod.kin h2 ?_ he hpl
      rw [he]
      show wpAny _ _ (spliced ((false, eval (.Name lx pl) X.env) :: backTo pc (starEach [] X.env))) _ _ s
      refine Calls.spliced_cons (raw_name hNl hvl I ev (fun u r => ?_) hdl hcl)
      have eu : u = Value.ref a := r
      subst eu
      rw [hnil]
      refine Calls.spliced_nil ?_
      have b := h3 s [.ref a] I.kIn (by rw [List.append_nil, hp1]; rfl)
      rw [List.append_nil] at b
      refine ⟨I.kIn, wpAny_call (codeAny_mono (h5 X.A X.stack s H ⟨[.ref a], []⟩ a xs hr (by have := I.env0; rw [hM.K, hM.mg] at this; exact this) b (SqT.of ha) hx hlen) fun r s' ⟨D, n, er, hL⟩ => ?_)⟩
      subst er
      exact ⟨D, n, rfl, hL⟩
    refine Subscript_ (wpAny_mono (wpAny_both run1 run2) (fun u s1 ⟨⟨x, H1, I1, r1, F1, g1, rep⟩, D, n, eu, its, c, hD, hz, hv⟩ => ?_) fun _ _ z => z)
    subst eu
    cases rep with
    | @lst a' ys _ hf ha' hys =>
      cases r1
      cases hys with
      | @cons y _ ys' _ ry _ =>
        obtain ⟨_, its', c', rvs, hD'⟩ := I1.hok _ _ ha'
        have e2 := hD.symm.trans hD'
        injection e2 with e2
        injection e2 with _ _ e3 _
        injection e3 with e3 _
        subst e3
        cases rvs with
        | @cons _ u0 _ us ru _ =>
          refine wpAny_Constant_int ?_
          have hl : ({ s1 with toks := s1.toks + 1 } : Shared).heap.IsList D (u0 :: us).toArray := ⟨_, hD, rfl, _, rfl⟩
          refine item_listR hl (by decide) (by decide) (x := u0) rfl ⟨⟨y, H1, I1.tok _, ru, ?_⟩, ?_⟩ (hix _ _)
          · exact w y H1 F1 g1 ry
          · exact (hv u0 (by simp)).mono (Nat.le_succ _)
/-- x = f(y)[0]; behind it x's token is known -/
theorem qs_head (il ix : Nat) {k : Nat} {fx lx x : Str} {m : List D → R D} {p pl pc cp p' ps : Pos} {jj : Nat} (hN : X.N.Nodup) (Fd : FnD X.prog X.w M X.base k fx m) (Fr : FnR X.prog X.w M X.base k fx) (hM : On X M) (hr : Room k X.A) (tk : Takes X W)
    (hrest : PSq (Tl X x) X sts (tS M W H0 F0 (O.filter (· != ix)) O' Ol g2)) (hO : O.contains il = false := by rfl) (hg : Gl X fx := by rfl)
    (hNl : X.N[il]? = some lx := by rfl) (hvl : Vis X.env.scope lx := by first | exact Or.inl rfl | exact Or.inr (Or.inl rfl) | exact Or.inr (Or.inr rfl)) (hdb : (fx == ("__debug__" : Str)) = false := by decide) (hdl : (lx == ("__debug__" : Str)) = false := by decide) (hcl : (lx == ("__classdict__" : Str)) = false := by decide)
    (he : starEach [.Name lx pl] X.env = (false, eval (.Name lx pl) X.env) :: starEach [] X.env := by rfl) (hpl : (backTo pc (starEach [] X.env)).any (·.1) = false := by rfl) (hnil : backTo pc (starEach [] X.env) = [] := by rfl) (hix : PlainIx (.Constant (.int 0) jj cp) := by intro _ _; rfl)
    (hi : X.N[ix]? = some x := by rfl) (hx : X.env.scope.names.lookup x = some .local := by rfl)
    (hs : swapsWith (.Subscript (.Call (.Name fx p) [.Name lx pl] [] pc) (.Constant (.int 0) jj cp) ps) (some (.Name x p')) pos.line X.env = pure false := by rfl) :
    PSs X (.Assign [.Name x p'] (.Subscript (.Call (.Name fx p) [.Name lx pl] [] pc) (.Constant (.int 0) jj cp) ps) pos :: sts) (tS M W H0 F0 O O' Ol (seqS (fun δ => inS δ (headOf m il δ) fun d => .nxt (δ.set ix (some d))) g2)) := by
  refine ⟨fun pins s σ H D I h => ?_⟩
  have h' := set_imp rfl (seq_imp (O1 := O.filter (· != ix)) h)
  refine wpAny_execs_cons (wpAny_Assign_Name (thn (raw_head il Fd Fr hM hr tk hO hg hNl hvl hdb hdl hcl he hpl hnil hix I h') fun u s1 ⟨⟨v, H1, I1, r1, q1⟩, y, t, eu, t0, t1⟩ => ?_) hs)
  obtain ⟨mm, hn, _⟩ := I1.loc
  have hcls : (X.env.scope.kind == .class || (X.env.scope.kind == .module && X.env.locals != X.env.globals)) = false := by rw [I1.ok.kind]; rfl
  have st := wpAny_both (E' := fun _ _ => False) (store_ok (M := model X.prog X.w) (A := X.A) (E := X.xe) (Q := fun _ s2 => L2.Inv X pins (σ.set ix (some v)) H1 s2) I1 hN hi (.inl hx) r1 (fun _ I' => I') (.inr hx)) (wpAny_storeName_local (Q := fun _ s2 => Tl X x s2) hx hn (fun h' hn' _ => ⟨_, y, t, hn', by simp only [if_true]; rw [eu], t0, Nat.lt_succ_of_lt t1⟩) hcls)
  exact thn st fun _ s2 ⟨I2, T2⟩ => hrest.run pins s2 _ H1 D T2 I2 q1
/-! ### a, b = f(y, x), e, x's token known -/
theorem qf_last {fls : List Bool} {e : Expr} {es : List Expr} {f : DEnv → R D} (ha : PEq P X e (tD M W O f)) (hr : PA X es (tF M W O fls fs)) (hs : starEach (e :: es) X.env = (false, eval e X.env) :: starEach es X.env := by rfl) : PAq P X (e :: es) (tF M W O (false :: fls) (consA f fs)) := paq_imp (paq_last ha hr hs) fun σ H Q ⟨δ, F, I, w⟩ => by
  refine tE.one I w fun d v H1 F1 ed g1 r w1 => ?_
  refine ⟨δ, F1, I.grow g1, R.wp_mono (R.wp_bind w1) (fun ds eds w2 vs H2 F2 g2 rs => ?_) fun n q H2 F2 g2 => q H2 F2 (g1.trans g2)⟩
  exact w2 (v :: vs) H2 F2 (g1.trans g2) (.cons (r.grow g2) (rs.low fun p h => none_of_grow g1 h) fun z => Bool.noConfusion z)
theorem ps1_par {n1 n2 : Nat} {x1 x2 : Str} {e1 e2 : Expr} {tt : TA} {q1 q2 q3 q4 : Pos} {c1 c2 : Nat} (calm : X.calm = true) (nd : X.N.Nodup) (hn1 : X.N[n1]? = some x1) (hn2 : X.N[n2]? = some x2) (ne : n1 ≠ n2)
    (l1 : X.env.scope.names.lookup x1 = some .local) (l2 : X.env.scope.names.lookup x2 = some .local) (hes : PAq P X [e1, e2] tt)
    (sw : swappedStores [.Tuple [.Name x1 q1, .Name x2 q2] c1 q3] (.Tuple [e1, e2] c2 q4) X.env = pure (some [x1, x2])) (so : swapsWithSole [.Tuple [.Name x1 q1, .Name x2 q2] c1 q3] (.Tuple [e1, e2] c2 q4) pos.line X.env = pure false) :
    PS1 P X (.Assign [.Tuple [.Name x1 q1, .Name x2 q2] c1 q3] (.Tuple [e1, e2] c2 q4) pos) (tPar n1 n2 tt) := by
  refine ⟨fun pins s σ H D pp I h => ?_⟩
  rw [exec_Assign_arm]
  refine wpAny_bind (wpAny_standAt ?_)
  rw [so]
  refine wpAny_bind (wpAny_pure ?_)
  rw [if_neg (by decide)]
  refine wpAny_bind (Tuple_ (thn (hes.run _ pins s σ H _ pp I h) fun us sa ⟨vs, Ha, Ia, ra, va, wa, ea, qa⟩ => ?_))
  subst ea
  cases ra with
  | @cons _ ua _ us1 rva r2 =>
    cases r2 with
    | @cons _ ub _ us2 rvb r3 =>
      cases r3
      refine wpAny_newObj_type ?_ (by show 2 ≤ sizeLine; decide)
      have Ib : L2.Inv X pins σ Ha { sa with heap := sa.heap.push { cls := .type "tuple", data := .seq [ua, ub].toArray } } := Ia.kept (t' := sa.toks) fun b ob eb => Heap.get?_push_of_some _ eb
      rw [sw]
      refine wpAny_bind (wpAny_pure ?_)
      show wpAny (model X.prog X.w) X.A (do rule "assign.swapped-stores"; let its ← unpackItems (.ref sa.heap.objs.size) 2 none; assignInOrder [fun z => bindName X.env x2 z, fun z => bindName X.env x1 z] its.reverse; pure Flow.next) _ _ _
      refine wpAny_bind (wpAny_rule (wpAny_bind (unpackItems_tuple (items := #[ua, ub]) (I.ok.hd calm) (IsTup.new sa.heap _) fun hh kx => ?_)))
      have Ic := Ib.kept (h' := hh) (t' := sa.toks) fun b ob eb => kx b ob (Nat.ne_of_lt (Heap.lt_size eb)) eb
      show wpAny _ _ (assignInOrder [fun z => bindName X.env x2 z, fun z => bindName X.env x1 z] [ub, ua] >>= fun _ => pure Flow.next) _ _ _
      refine wpAny_bind (assignInOrder_cons (wpAny_bindName (store_ok Ic nd hn2 (.inl l2) rvb (fun sb Id => ?_) (.inr l2))))
      refine assignInOrder_cons (wpAny_bindName (store_ok Id nd hn1 (.inl l1) rva (fun sc Ie => assignInOrder_nil (wpAny_pure ?_)) (.inr l1)))
      rw [List.set_comm _ _ (Ne.symm ne)] at Ie
      exact ⟨_, Ha, Ie, qa⟩
theorem qs_par2 (i j : Nat) {x y : Str} {a b : Expr} {fa fb : Bool} {px py pt : Pos} {kt k2 pt2} (hc : X.calm = true) (hN : X.N.Nodup) (ha : PAq P X [a, b] (tF M W O [fa, fb] fs)) (hij : i ≠ j := by decide) (hO : O' = oset fb j (oset fa i O) := by rfl)
    (hi : X.N[i]? = some x := by rfl) (hj : X.N[j]? = some y := by rfl) (hx : X.env.scope.names.lookup x = some .local := by rfl) (hy : X.env.scope.names.lookup y = some .local := by rfl)
    (hw : swappedStores [.Tuple [.Name x px, .Name y py] kt pt] (.Tuple [a, b] k2 pt2) X.env = pure (some [x, y]) := by rfl)
    (hs : swapsWithSole [.Tuple [.Name x px, .Name y py] kt pt] (.Tuple [a, b] k2 pt2) pos.line X.env = pure false := by rfl) :
    PSq P X [.Assign [.Tuple [.Name x px, .Name y py] kt pt] (.Tuple [a, b] k2 pt2) pos] (tS M W H0 F0 O O' Ol fun δ => inA δ (fs δ) (set2 i j δ)) := by
  have h1 := ps1_imp (ps1_par hc hN hi hj hij hx hy ha hw hs) (t' := tS M W H0 F0 O O' Ol fun δ => inA δ (fs δ) (set2 i j δ)) fun E σ H ⟨δ, F, I, w⟩ => tF.inA I w fun ds vs H' F' _ g r w' => by
    subst hO
    unfold set2 at w'
    split at w'
    · obtain ⟨x, y, rfl, I2⟩ := I.two g hij r
      exact ⟨x, y, rfl, w' _ H' F' I2⟩
    · exact w'.elim
  refine ⟨fun pins s σ H D p I q => wpAny_execs_cons (thn (h1.run pins s σ H D p I q) fun f s1 h => ?_)⟩
  cases f with
  | next => exact wpAny_execs_nil h
  | ret v => exact h
  | brk => exact h
  | cont => exact h
end
end CL

set_option maxHeartbeats 1000000
namespace CL
open PySem PySem.Spec PyProof.Rows L2

theorem atI_zero {α : Type} {l : List α} (h : l ≠ []) : ∃ c, L2.atI l 0 = some c := by
  cases l with
  | nil => exact absurd rfl h
  | cons a l => exact ⟨a, by unfold L2.atI L2.ixN; simp⟩
theorem atI_neg {α : Type} {l : List α} (h : l ≠ []) : ∃ c, L2.atI l (-1) = some c := by
  have h1 : 0 < l.length := List.length_pos_iff.2 h
  refine ⟨l[l.length - 1]'(by omega), ?_⟩
  unfold L2.atI L2.ixN
  rw [if_neg (by decide)]
  first
  | (rw [if_pos (by omega)]
     have : (-1 + (l.length : Int)).toNat = l.length - 1 := by omega
     simp only [Option.bind_some, this]
     exact List.getElem?_eq_getElem (by omega))
  | (simp only []
     split
     · rename_i h2
       have : (-1 + (l.length : Int)).toNat = l.length - 1 := by omega
       simp [this]
       omega
     · omega)
section
variable {X : Cx} {E : Value → Shared → Prop} {pins : List (Addr × Obj)} {s : Shared} {σ : L2.St} {H : Hp} {scope : Scope} {own : List (Str × Nat)} {pos p1 p2 p3 p4 p5 p6 p7 p8 cp ck : Pos} {j jk : Nat} {lx ix : Str} {i il : Nat} {a : Addr} {xs : List V}
/-- [y[0] for y in x if y != ''] -/
theorem raw_first (i il : Nat) (hc : X.calm = true) (hN : X.N.Nodup) (I : L2.Inv X pins σ H s) (h0 : 1 ≤ s.toks) (hσ : σ[i]? = some (some (.ref a))) (hq : SqT X.K H a xs) (hx : ∀ x ∈ xs, ∃ z : Str, x = .str z ∧ z.length ≤ sizeLine)
    (ok : BlkOk X.N X.env.scope scope own) (ho : own.map (·.2) = [il] := by rfl)
    (hNi : X.N[i]? = some ix := by rfl) (hvi : Vis X.env.scope ix := by exact Or.inl rfl) (hdi : (ix == ("__debug__" : Str)) = false := by decide) (hci : (ix == ("__classdict__" : Str)) = false := by decide)
    (hNl : X.N[il]? = some lx := by rfl) (hdl : (lx == ("__debug__" : Str)) = false := by decide) (hcl : (lx == ("__classdict__" : Str)) = false := by decide)
    (hll : ∀ (cl : List (Str × Addr)) (C : Addr), (compEnvC scope cl C X.env).scope.names.lookup lx = some .local := by intro _ _; rfl)
    (hm : behindInMarks .NotEq (.Constant (.str "") j cp) = false := by rfl) (hs : ∀ x, foldedSetIterable (.Name ix p4) X.env x = pure x := by intro _; rfl) :
    wpAny (model X.prog X.w) X.A (eval (.ListComp (.Subscript (.Name lx p1) (.Constant (.int 0) jk ck) p2) [⟨.Name lx p3, .Name ix p4, [.Compare (.Name lx p5) [.NotEq] [.Constant (.str "") j cp] p6], 0⟩] scope pos) X.env) (RL X pins σ H xs.length) E s := by
  rw [eval_ListComp]
  exact raw_lc (k := 0) hc hN I h0 ok ho hNi hvi hdi hci hNl hdl hcl (fun _ _ C cl _ => .inl (hll cl C)) (fun _ _ C cl _ => pg_name hN hNl (.inl (hll cl C)) (.inr (hll cl C))) (fun _ _ _ _ _ => pe_int) (fun _ _ => rfl) hm hs hσ hq fun x h => by
    obtain ⟨z, e, hz⟩ := hx x h
    exact ⟨z, e, atI_zero, hz⟩
/-- [y[-1] for y in x if y != ''] -/
theorem raw_last (i il : Nat) {pu : Pos} (hc : X.calm = true) (hN : X.N.Nodup) (I : L2.Inv X pins σ H s) (h0 : 1 ≤ s.toks) (hσ : σ[i]? = some (some (.ref a))) (hq : SqT X.K H a xs) (hx : ∀ x ∈ xs, ∃ z : Str, x = .str z ∧ z.length ≤ sizeLine)
    (ok : BlkOk X.N X.env.scope scope own) (ho : own.map (·.2) = [il] := by rfl)
    (hNi : X.N[i]? = some ix := by rfl) (hvi : Vis X.env.scope ix := by exact Or.inl rfl) (hdi : (ix == ("__debug__" : Str)) = false := by decide) (hci : (ix == ("__classdict__" : Str)) = false := by decide)
    (hNl : X.N[il]? = some lx := by rfl) (hdl : (lx == ("__debug__" : Str)) = false := by decide) (hcl : (lx == ("__classdict__" : Str)) = false := by decide)
    (hll : ∀ (cl : List (Str × Addr)) (C : Addr), (compEnvC scope cl C X.env).scope.names.lookup lx = some .local := by intro _ _; rfl)
    (hm : behindInMarks .NotEq (.Constant (.str "") j cp) = false := by rfl) (hs : ∀ x, foldedSetIterable (.Name ix p4) X.env x = pure x := by intro _; rfl) :
    wpAny (model X.prog X.w) X.A (eval (.ListComp (.Subscript (.Name lx p1) (.UnaryOp .USub (.Constant (.int 1) jk ck) pu) p2) [⟨.Name lx p3, .Name ix p4, [.Compare (.Name lx p5) [.NotEq] [.Constant (.str "") j cp] p6], 0⟩] scope pos) X.env) (RL X pins σ H xs.length) E s := by
  rw [eval_ListComp]
  exact raw_lc (k := -1) hc hN I h0 ok ho hNi hvi hdi hci hNl hdl hcl (fun _ _ C cl _ => .inl (hll cl C)) (fun _ _ C cl _ => pg_name hN hNl (.inl (hll cl C)) (.inr (hll cl C))) (fun _ _ _ _ _ => pe_imp (pe_un un_neg pe_int) fun σ H Q h => ⟨1, rfl, h⟩) (fun _ _ => rfl) hm hs hσ hq fun x h => by
    obtain ⟨z, e, hz⟩ := hx x h
    exact ⟨z, e, atI_neg, hz⟩
end
end CL

namespace CY
open CL
/-! ### yards, plainly -/
abbrev Lanes := List (List Nat)
def isL (c : Nat) : Bool := decide (c ∈ [97, 98, 99, 100, 101, 102, 103, 104])
def yd (r : Nat) (L : Lanes) : D := .tup [.int r, .tup (L.map .str)]
structure Ok (r : Nat) (L : Lanes) : Prop where
  r1 : 1 ≤ r
  r4 : r ≤ 4
  n1 : 1 ≤ L.length
  n4 : L.length ≤ 4
  len : ∀ l ∈ L, l.length ≤ r
  let_ : ∀ l ∈ L, ∀ c ∈ l, isL c = true
  nd : L.flatten.Nodup
theorem flat_le {r : Nat} : ∀ {L : Lanes}, (∀ l ∈ L, l.length ≤ r) → L.flatten.length ≤ r * L.length
  | [], _ => by simp
  | l :: L, h => by
    have h1 := h l (by simp)
    have h2 := flat_le (L := L) fun z hz => h z (by simp [hz])
    simp only [List.flatten_cons, List.length_append, List.length_cons, Nat.mul_succ]
    omega
theorem Ok.tot {r : Nat} {L : Lanes} (h : Ok r L) : L.flatten.length ≤ 16 := by
  have := flat_le h.len
  have h1 := h.r4
  have h2 := h.n4
  have : r * L.length ≤ 4 * 4 := Nat.mul_le_mul h1 h2
  omega
theorem ydix0 (r : Nat) (L : Lanes) : D.ix (yd r L) (.int 0) = .ok (.int r) := by simp [yd]
theorem ydix1 (r : Nat) (L : Lanes) : D.ix (yd r L) (.int 1) = .ok (.tup (L.map D.str)) := by simp [yd]
theorem mem_srt {c : Nat} {l : List Nat} : c ∈ srt l ↔ c ∈ l := (srt_perm l).mem_iff
theorem Ok.isL {r : Nat} {L : Lanes} (h : Ok r L) {c : Nat} (hc : c ∈ L.flatten) : isL c = true := by
  obtain ⟨l, hl, hcl⟩ := List.mem_flatten.1 hc
  exact h.let_ l hl c hcl
def idx (L : Lanes) (c : Nat) : Nat := L.findIdx fun l => decide (c ∈ l)
def lane (L : Lanes) (c : Nat) : List Nat := L.getD (idx L c) []
theorem idx_lt {L : Lanes} {c : Nat} (hc : c ∈ L.flatten) : idx L c < L.length := by
  obtain ⟨l, hl, hcl⟩ := List.mem_flatten.1 hc
  exact List.findIdx_lt_length_of_exists ⟨l, hl, by simpa using hcl⟩
theorem lane_get {L : Lanes} {c : Nat} (hc : c ∈ L.flatten) : L[idx L c]? = some (lane L c) := by
  have := idx_lt hc
  unfold lane
  rw [List.getD_eq_getElem?_getD, List.getElem?_eq_getElem this]; rfl
theorem mem_lane {L : Lanes} {c : Nat} (hc : c ∈ L.flatten) : c ∈ lane L c := by
  have h1 := idx_lt hc
  have h2 : c ∈ L[idx L c] := of_decide_eq_true (List.findIdx_getElem (w := h1) (p := fun l => decide (c ∈ l)))
  have h3 := lane_get hc
  rw [List.getElem?_eq_getElem h1] at h3
  rwa [Option.some.inj h3] at h2
theorem filter_idx {c : Nat} : ∀ (L : Lanes) (k : Nat), c ∈ L.flatten → ∃ r, (((List.range' k L.length).zip L).filter (fun x => decide (c ∈ x.2))).map (·.1) = (k + idx L c) :: r
  | [], k, h => by simp at h
  | l :: L, k, h => by
    simp only [List.length_cons, List.range'_succ, List.zip_cons_cons, List.filter_cons, idx, List.findIdx_cons]
    by_cases hl : c ∈ l
    · simp only [hl, decide_true, if_true, List.map_cons, cond_true]
      exact ⟨_, rfl⟩
    · have h' : c ∈ L.flatten := by simpa [hl] using h
      obtain ⟨r, hr⟩ := filter_idx L (k + 1) h'
      simp only [hl, decide_false, Bool.false_eq_true, if_false, cond_false]
      refine ⟨r, ?_⟩
      rw [hr]
      simp only [idx]
      congr 1
      omega
def bef (L : Lanes) (c : Nat) : List Nat := ((lane L c).drop ((lane L c).idxOf c + 1)).reverse
theorem ix_lane {L : Lanes} {k : Nat} {l : List Nat} (h : L[k]? = some l) : D.ix (.tup (L.map D.str)) (.int k) = .ok (.str l) := ev_ixTn (by rw [List.getElem?_map, h]; rfl)
def spc (r : Nat) (L : Lanes) : Int := (r : Int) * L.length - L.flatten.length
def few (r : Nat) (L : Lanes) (c : Nat) : Option Nat := if ((bef L c).length : Int) ≤ spc r L - ((r : Int) - (lane L c).length) then some (bef L c).length else none
def fewD : Option Nat → D
  | some n => .int n
  | none => .non
theorem ev_addT {a b : List D} (h : a.length + b.length ≤ 16777216) : D.add (.tup a) (.tup b) = .ok (.tup (a ++ b)) := by
  show (if a.length + b.length ≤ lim then R.ok (D.tup (a ++ b)) else .bad) = _
  rw [if_pos h]
theorem ev_addS {a b : List Nat} (h : a.length + b.length ≤ 16777216) : D.add (.str a) (.str b) = .ok (.str (a ++ b)) := by
  show (if a.length + b.length ≤ lim then R.ok (D.str (a ++ b)) else .bad) = _
  rw [if_pos h]
def mvD (m : Nat × Nat) : D := .tup [.int m.1, .int m.2]
def lanN (L : Lanes) (i : Nat) : List Nat := L.getD i []
theorem lanN_get {L : Lanes} {i : Nat} (h : i < L.length) : L[i]? = some (lanN L i) := by
  unfold lanN
  rw [List.getD_eq_getElem?_getD, List.getElem?_eq_getElem h]; rfl
def psb (r : Nat) (L : Lanes) (m : Nat × Nat) : Bool := (lanN L m.1 != []) && decide ((lanN L m.2).length < r)
theorem nbeq (x y : Nat) : ((x : Int) == (y : Int)) = (x == y) := by
  by_cases h : x = y
  · subst h; simp
  · have h' : ¬ (x : Int) = y := by omega
    rw [beq_eq_false_iff_ne.2 h', beq_eq_false_iff_ne.2 h]
def prs (n : Nat) : List (Nat × Nat) := (List.range n).flatMap fun i => ((List.range n).filter fun j => i != j).map fun j => (i, j)
theorem mem_prs {n : Nat} {m : Nat × Nat} : m ∈ prs n ↔ m.1 < n ∧ m.2 < n ∧ m.1 ≠ m.2 := by
  obtain ⟨i, j⟩ := m
  simp [prs]
def mvs (r : Nat) (L : Lanes) : List (Nat × Nat) := (prs L.length).filter (psb r L)
theorem prs_len {n : Nat} (h : n ≤ 4) : (prs n).length ≤ 16 := by
  have : n = 0 ∨ n = 1 ∨ n = 2 ∨ n = 3 ∨ n = 4 := by omega
  rcases this with e | e | e | e | e <;> subst e <;> decide
def topOf (l : List Nat) : Nat := l.getLastD 0
theorem topOf_eq {l : List Nat} (h : l ≠ []) : l.getLast? = some (topOf l) := by
  unfold topOf
  rw [List.getLastD_eq_getLast?]
  cases e : l.getLast? with
  | none => exact absurd (List.getLast?_eq_none_iff.1 e) h
  | some x => rfl
/-- the top of lane i goes to lane j -/
def dm (L : Lanes) (m : Nat × Nat) : Lanes := (L.set m.2 (lanN L m.2 ++ [topOf (lanN L m.1)])).set m.1 (lanN L m.1).dropLast
/-! ### what a move does -/
theorem lanN_set {L : Lanes} {i k : Nat} {l : List Nat} (hi : i < L.length) : lanN (L.set i l) k = if k = i then l else lanN L k := by
  unfold lanN
  by_cases h : k = i
  · subst h; simp [hi]
  · simp [List.getElem?_set_ne (Ne.symm h), h]
theorem cnt_set (c : Nat) : ∀ (L : Lanes) (i : Nat) (l : List Nat), i < L.length → (L.set i l).flatten.count c + (lanN L i).count c = L.flatten.count c + l.count c
  | [], i, l, h => by simp at h
  | x :: L, 0, l, _ => by simp [lanN]; omega
  | x :: L, i + 1, l, h => by
    have ih := cnt_set c L i l (by simpa using h)
    have e : lanN (x :: L) (i + 1) = lanN L i := by simp [lanN]
    simp only [List.set_cons_succ, List.flatten_cons, List.count_append, e]
    omega
theorem top_split {l : List Nat} (h : l ≠ []) : l.dropLast ++ [topOf l] = l := by
  have e := topOf_eq h
  rw [List.getLast?_eq_some_getLast h] at e
  rw [← Option.some.inj e]
  exact List.dropLast_concat_getLast h
structure Mv (r : Nat) (L : Lanes) (m : Nat × Nat) : Prop where
  h1 : m.1 < L.length
  h2 : m.2 < L.length
  ne : m.1 ≠ m.2
  full : lanN L m.1 ≠ []
  room : (lanN L m.2).length < r
theorem mv_of {r : Nat} {L : Lanes} {m : Nat × Nat} : m ∈ mvs r L ↔ Mv r L m := by
  unfold mvs
  rw [List.mem_filter, mem_prs]
  simp only [psb, Bool.and_eq_true, decide_eq_true_eq, bne_iff_ne]
  exact ⟨fun ⟨⟨a, b, c⟩, d, e⟩ => ⟨a, b, c, d, e⟩, fun h => ⟨⟨h.h1, h.h2, h.ne⟩, h.full, h.room⟩⟩
theorem dm_len (L : Lanes) (m : Nat × Nat) : (dm L m).length = L.length := by simp [dm]
theorem lanN_dm {r : Nat} {L : Lanes} {m : Nat × Nat} (h : Mv r L m) (k : Nat) : lanN (dm L m) k = if k = m.1 then (lanN L m.1).dropLast else if k = m.2 then lanN L m.2 ++ [topOf (lanN L m.1)] else lanN L k := by
  unfold dm
  rw [lanN_set (by simpa using h.h1), lanN_set h.h2]
theorem dm_perm {r : Nat} {L : Lanes} {m : Nat × Nat} (h : Mv r L m) : (dm L m).flatten.Perm L.flatten := by
  rw [List.perm_iff_count]
  intro c
  have e1 := cnt_set c L m.2 (lanN L m.2 ++ [topOf (lanN L m.1)]) h.h2
  have e2 := cnt_set c (L.set m.2 (lanN L m.2 ++ [topOf (lanN L m.1)])) m.1 (lanN L m.1).dropLast (by simpa using h.h1)
  rw [lanN_set h.h2, if_neg h.ne] at e2
  have e3 := congrArg (List.count c) (top_split h.full)
  simp only [List.count_append] at e1 e3
  unfold dm
  omega
theorem lanN_mem {L : Lanes} {l : List Nat} : l ∈ L ↔ ∃ k, k < L.length ∧ lanN L k = l := by
  constructor
  · intro h
    obtain ⟨k, hk, e⟩ := List.getElem_of_mem h
    refine ⟨k, hk, ?_⟩
    have := lanN_get hk
    rw [List.getElem?_eq_getElem hk] at this
    rw [← Option.some.inj this, e]
  · rintro ⟨k, hk, rfl⟩
    exact List.mem_of_getElem? (lanN_get hk)
theorem Ok.dm {r : Nat} {L : Lanes} {m : Nat × Nat} (o : Ok r L) (h : Mv r L m) : Ok r (dm L m) := by
  have lenN : ∀ k, k < L.length → (lanN L k).length ≤ r := fun k hk => o.len _ (lanN_mem.2 ⟨k, hk, rfl⟩)
  refine ⟨o.r1, o.r4, by rw [dm_len]; exact o.n1, by rw [dm_len]; exact o.n4, fun l hl => ?_, fun l hl c hc => ?_, (dm_perm h).nodup_iff.2 o.nd⟩
  · obtain ⟨k, hk, rfl⟩ := lanN_mem.1 hl
    rw [dm_len] at hk
    rw [lanN_dm h]
    split
    · have := lenN m.1 h.h1; simp; omega
    · split
      · have := h.room; simp; omega
      · exact lenN k hk
  · exact o.isL ((dm_perm h).mem_iff.1 (List.mem_flatten.2 ⟨l, hl, hc⟩))
/-! where a car stands -/
theorem cnt_le (c : Nat) {L : Lanes} {i j : Nat} (hi : i < L.length) (hj : j < L.length) (hne : i ≠ j) : (lanN L i).count c + (lanN L j).count c ≤ L.flatten.count c := by
  have e1 := cnt_set c L i [] hi
  have e2 := cnt_set c (L.set i []) j [] (by simpa using hj)
  rw [lanN_set hi, if_neg (Ne.symm hne)] at e2
  simp only [List.count_nil] at e1 e2
  omega
theorem idx_eq {L : Lanes} (nd : L.flatten.Nodup) {c k : Nat} (hk : k < L.length) (hc : c ∈ lanN L k) : idx L c = k := by
  have hm : c ∈ L.flatten := List.mem_flatten.2 ⟨_, lanN_mem.2 ⟨k, hk, rfl⟩, hc⟩
  by_cases h : idx L c = k
  · exact h
  · exfalso
    have e1 : c ∈ lanN L (idx L c) := mem_lane hm
    have := cnt_le c (idx_lt hm) hk h
    have a := List.count_pos_iff.2 e1
    have b := List.count_pos_iff.2 hc
    have d := (List.nodup_iff_count.1 nd) c
    omega
theorem lane_eq (L : Lanes) (c : Nat) : lane L c = lanN L (idx L c) := rfl
def pos (L : Lanes) (c : Nat) : Nat := (lane L c).idxOf c
theorem pos_lt {L : Lanes} {c : Nat} (hc : c ∈ L.flatten) : pos L c < (lane L c).length := List.idxOf_lt_length_of_mem (mem_lane hc)
theorem bef_len {L : Lanes} {c : Nat} : (bef L c).length = (lane L c).length - (pos L c + 1) := by simp [bef, pos]
/-- it can get out -/
def Fr (r : Nat) (L : Lanes) (c : Nat) : Prop := L.flatten.length + r ≤ r * L.length + pos L c + 1
theorem few_iff {r : Nat} {L : Lanes} {c : Nat} (hc : c ∈ L.flatten) : few r L c = if L.flatten.length + r ≤ r * L.length + pos L c + 1 then some (bef L c).length else none := by
  have hp := pos_lt hc
  have hb := bef_len (L := L) (c := c)
  unfold few spc
  have e : ((r : Int) * (L.length : Int)) = ((r * L.length : Nat) : Int) := by simp
  rw [e]
  by_cases h : L.flatten.length + r ≤ r * L.length + pos L c + 1
  · rw [if_pos h, if_pos (by omega)]
  · rw [if_neg h, if_neg (by omega)]
theorem flat_lane {r : Nat} {L : Lanes} (o : Ok r L) {k : Nat} (hk : k < L.length) : L.flatten.length + r ≤ r * L.length + (lanN L k).length := by
  have key : ∀ (L : Lanes) (k : Nat), (∀ l ∈ L, l.length ≤ r) → k < L.length → L.flatten.length + r ≤ r * L.length + (lanN L k).length := by
    intro L
    induction L with
    | nil => intro k _ h; simp at h
    | cons x L ih =>
      intro k hl hk
      have hx := hl x (by simp)
      have hL : ∀ l ∈ L, l.length ≤ r := fun l h => hl l (by simp [h])
      cases k with
      | zero =>
        have := flat_le hL
        simp only [List.flatten_cons, List.length_append, List.length_cons, Nat.mul_succ, lanN, List.getD_cons_zero]
        omega
      | succ k =>
        have := ih k hL (by simpa using hk)
        have e : lanN (x :: L) (k + 1) = lanN L k := by simp [lanN]
        rw [e]
        simp only [List.flatten_cons, List.length_append, List.length_cons, Nat.mul_succ]
        omega
  exact key L k o.len hk
theorem top_free {r : Nat} {L : Lanes} (o : Ok r L) {c : Nat} (hc : c ∈ L.flatten) (h : pos L c + 1 = (lane L c).length) : L.flatten.length + r ≤ r * L.length + pos L c + 1 := by
  have := flat_lane o (idx_lt hc)
  rw [← lane_eq] at this
  omega
theorem idxOf_last {l : List Nat} {t : Nat} (nd : (l ++ [t]).Nodup) : (l ++ [t]).idxOf t = l.length := by
  have : t ∉ l := fun h => by
    have := (List.nodup_append.1 nd).2.2 t h t (by simp)
    exact this rfl
  rw [List.idxOf_append, if_neg this]; simp
theorem lane_nd {L : Lanes} (nd : L.flatten.Nodup) {k : Nat} (hk : k < L.length) : (lanN L k).Nodup :=
  (List.pairwise_flatten.1 nd).1 _ (lanN_mem.2 ⟨k, hk, rfl⟩)
/-- the place of a car that is not moved stays -/
theorem place_dm {r : Nat} {L : Lanes} {m : Nat × Nat} (o : Ok r L) (h : Mv r L m) {c : Nat} (hc : c ∈ L.flatten) (hne : c ≠ topOf (lanN L m.1)) : idx (dm L m) c = idx L c ∧ pos (dm L m) c = pos L c := by
  have o' := o.dm h
  have hk := idx_lt hc
  have hcl := mem_lane hc
  rw [lane_eq] at hcl
  have key : c ∈ lanN (CY.dm L m) (idx L c) ∧ (lanN (CY.dm L m) (idx L c)).idxOf c = (lanN L (idx L c)).idxOf c := by
    rw [lanN_dm h]
    split
    · rename_i e
      rw [e] at hcl ⊢
      have hs := top_split h.full
      have hd : c ∈ (lanN L m.1).dropLast := by
        rw [← hs] at hcl
        rcases List.mem_append.1 hcl with z | z
        · exact z
        · exact absurd (by simpa using z) hne
      refine ⟨hd, ?_⟩
      conv => rhs; rw [← hs]
      rw [List.idxOf_append, if_pos hd]
    · split
      · rename_i e
        rw [e] at hcl ⊢
        refine ⟨by simp [hcl], ?_⟩
        rw [List.idxOf_append, if_pos hcl]
      · exact ⟨hcl, rfl⟩
  have e := idx_eq o'.nd (by rw [dm_len]; exact hk) key.1
  refine ⟨e, ?_⟩
  unfold pos
  rw [lane_eq, lane_eq, e]
  exact key.2
theorem few_dm {r : Nat} {L : Lanes} {m : Nat × Nat} (o : Ok r L) (h : Mv r L m) {c : Nat} (hc : c ∈ L.flatten) : (few r (dm L m) c).isSome = (few r L c).isSome := by
  have o' := o.dm h
  have hc' := (dm_perm h).mem_iff.2 hc
  have hl := (dm_perm h).length_eq
  rw [few_iff hc, few_iff hc', hl, dm_len]
  by_cases e : c = topOf (lanN L m.1)
  · have hin : c ∈ lanN L m.1 := by
      rw [e]
      conv => lhs; rw [← top_split h.full]
      simp
    have i1 := idx_eq o.nd h.h1 hin
    have n1 := lane_nd o.nd h.h1
    have p1 : pos L c + 1 = (lane L c).length := by
      unfold pos
      rw [lane_eq, i1]
      have hs := top_split h.full
      rw [← hs] at n1
      have := idxOf_last n1
      rw [hs, ← e] at this
      rw [this]
      have := congrArg List.length hs
      simp at this
      have hp := List.length_pos_iff.2 h.full
      simp; omega
    have hin2 : c ∈ lanN (dm L m) m.2 := by
      rw [lanN_dm h, if_neg (Ne.symm h.ne), if_pos rfl, e]; simp
    have i2 := idx_eq o'.nd (by rw [dm_len]; exact h.h2) hin2
    have n2 := lane_nd o'.nd (k := m.2) (by rw [dm_len]; exact h.h2)
    have p2 : pos (dm L m) c + 1 = (lane (dm L m) c).length := by
      unfold pos
      rw [lane_eq, i2]
      rw [lanN_dm h, if_neg (Ne.symm h.ne), if_pos rfl] at n2 ⊢
      rw [e, idxOf_last n2]
      simp
    have f1 := top_free o hc p1
    have f2 := top_free o' hc' p2
    rw [hl, dm_len] at f2
    rw [if_pos f1, if_pos f2]
    rfl
  · obtain ⟨_, e2⟩ := place_dm o h hc e
    rw [e2]
    split <;> rfl
/-! ### shut_in, hardest, free_cars -/
def shut (r : Nat) (L : Lanes) : List Nat := (srt L.flatten).filter fun c => (few r L c).isNone
theorem strOf_str {f : DEnv → R D} {δ : DEnv} {s : List Nat} (h : f δ = .ok (.str s)) : strOf f δ = .ok (s.map fun c => D.str [c]) := by
  unfold strOf; rw [h]; rfl
theorem srt_len {r : Nat} {L : Lanes} (h : Ok r L) : (srt L.flatten).length ≤ 16 := by
  have := h.tot
  rw [(srt_perm L.flatten).length_eq]; exact this
theorem ev_joinSig (l : List Nat) (h : l.length ≤ 16777216) : D.join (.str []) [.lst (l.map fun c => D.str [c])] = .ok (.str l) := by
  have := ev_joinL (l.map fun c => [c]) (by rw [flat_sign]; exact h)
  rw [flat_sign, List.map_map] at this
  exact this
def pD (p : Int × Nat) : D := .tup [.int p.1, .str [p.2]]
def ltp (y a : Int × Nat) : Bool := decide (y.1 < a.1) || (decide (y.1 = a.1) && decide (y.2 < a.2))
def lst (x : Int × Nat) (xs : List (Int × Nat)) : Int × Nat := xs.foldl (fun a y => if ltp y a then y else a) x
theorem ltIS_p (y a : Int × Nat) : ltIS (pD y) (pD a) = ltp y a := by
  have e : ([y.2] < [a.2]) ↔ y.2 < a.2 := by rw [List.cons_lt_cons_iff]; simp
  simp only [ltIS, pD, ltp, e]
theorem ev_min (x : Int × Nat) (xs : List (Int × Nat)) : D.min [.lst ((x :: xs).map pD)] = .ok (pD (lst x xs)) := by
  have hall : ((x :: xs).map pD).all isIS = true := by simp [isIS, pD]
  have hf : ∀ (l : List (Int × Nat)) (x : Int × Nat), (l.map pD).foldl (fun a y => if ltIS y a then y else a) (pD x) = pD (l.foldl (fun a y => if ltp y a then y else a) x) := by
    intro l
    induction l with
    | nil => intro x; rfl
    | cons y l ih =>
      intro x
      simp only [List.map_cons, List.foldl_cons, ltIS_p]
      split
      · exact ih y
      · exact ih x
  show (if ((x :: xs).map pD).all isIS = true then R.ok ((xs.map pD).foldl (fun a y => if ltIS y a then y else a) (pD x)) else .bad) = _
  rw [if_pos hall, hf]
  rfl
/-- the cars that can get out, each with the moves it takes -/
def outs (r : Nat) (L : Lanes) : List (Int × Nat) := ((srt L.flatten).filter fun c => (few r L c).isSome).map fun c => (0 - ((few r L c).getD 0 : Int), c)
def hard (r : Nat) (L : Lanes) : D := match outs r L with
  | [] => .non
  | x :: xs => .str [(lst x xs).2]
def frees (L : Lanes) : List Nat := srt ((L.filter fun l => l != []).map topOf)
/-! ### after_all, way_out -/
def Good (r : Nat) : Lanes → List (Nat × Nat) → Lanes → Prop
  | L, [], L' => L = L'
  | L, m :: ms, L' => Mv r L m ∧ Good r (dm L m) ms L'
theorem Good.ok {r : Nat} : ∀ {ms : List (Nat × Nat)} {L L' : Lanes}, Ok r L → Good r L ms L' → Ok r L' ∧ L'.length = L.length ∧ L'.flatten.Perm L.flatten
  | [], L, L', o, g => by have g : L = L' := g; subst g; exact ⟨o, rfl, .refl _⟩
  | m :: ms, L, L', o, g => by
    obtain ⟨h, g⟩ := g
    obtain ⟨a, b, c⟩ := Good.ok (o.dm h) g
    exact ⟨a, by rw [b, dm_len], c.trans (dm_perm h)⟩
theorem Good.prs {r : Nat} : ∀ {ms : List (Nat × Nat)} {L L' : Lanes}, Good r L ms L' → ∀ m ∈ ms, m ∈ prs L.length
  | [], _, _, _, m, hm => by simp at hm
  | x :: ms, L, L', g, m, hm => by
    obtain ⟨h, g⟩ := g
    rcases List.mem_cons.1 hm with e | e
    · subst e; exact mem_prs.2 ⟨h.h1, h.h2, h.ne⟩
    · have := Good.prs g m e
      rwa [dm_len] at this
/-- the first move out of lane k -/
def nearL (r : Nat) (L : Lanes) (k : Nat) : List (Nat × Nat) := (mvs r L).filter fun m => m.1 == k
/-- a lane whose top is above c can give it away -/
theorem near_ne {r : Nat} {L : Lanes} (o : Ok r L) {c : Nat} (hc : c ∈ L.flatten) (fr : L.flatten.length + r ≤ r * L.length + pos L c + 1) (hb : bef L c ≠ []) : nearL r L (idx L c) ≠ [] := by
  have hk := idx_lt hc
  have hbl : 0 < (bef L c).length := List.length_pos_iff.2 hb
  rw [bef_len] at hbl
  have hex : ∃ j, j < L.length ∧ j ≠ idx L c ∧ (lanN L j).length < r := by
    apply Classical.byContradiction
    intro hno
    have hall : ∀ j, j < L.length → j ≠ idx L c → (lanN L j).length = r := fun j hj hne => by
      have h1 : (lanN L j).length ≤ r := o.len _ (lanN_mem.2 ⟨j, hj, rfl⟩)
      have h2 : ¬ (lanN L j).length < r := fun z => hno ⟨j, hj, hne, z⟩
      omega
    have key : ∀ (L : Lanes) (k : Nat), k < L.length → (∀ j, j < L.length → j ≠ k → (lanN L j).length = r) → L.flatten.length + r = r * L.length + (lanN L k).length := by
      intro L
      induction L with
      | nil => intro k h; simp at h
      | cons x L ih =>
        intro k hk hall
        cases k with
        | zero =>
          have hr : ∀ l ∈ L, l.length = r := fun l hl => by
            obtain ⟨j, hj, rfl⟩ := lanN_mem.1 hl
            have := hall (j + 1) (by simpa using hj) (by omega)
            simpa [lanN] using this
          have e : L.flatten.length = r * L.length := by
            clear ih hall hk
            induction L with
            | nil => simp
            | cons y L ih =>
              have := ih fun l hl => hr l (by simp [hl])
              have := hr y (by simp)
              simp only [List.flatten_cons, List.length_append, List.length_cons, Nat.mul_succ]
              omega
          simp only [List.flatten_cons, List.length_append, List.length_cons, Nat.mul_succ, lanN, List.getD_cons_zero]
          omega
        | succ k =>
          have := ih k (by simpa using hk) fun j hj hne => by
            have := hall (j + 1) (by simpa using hj) (by omega)
            simpa [lanN] using this
          have hx : x.length = r := by simpa [lanN] using hall 0 (by simp) (by omega)
          have e : lanN (x :: L) (k + 1) = lanN L k := by simp [lanN]
          rw [e]
          simp only [List.flatten_cons, List.length_append, List.length_cons, Nat.mul_succ]
          omega
    have := key L (idx L c) hk hall
    rw [← lane_eq] at this
    omega
  obtain ⟨j, hj, hne, hr⟩ := hex
  have hm : (idx L c, j) ∈ nearL r L (idx L c) := by
    unfold nearL
    rw [List.mem_filter]
    refine ⟨mv_of.2 ⟨hk, hj, Ne.symm hne, fun e => ?_, hr⟩, by simp⟩
    have : lane L c = [] := e
    rw [this] at hbl
    simp at hbl
  exact List.ne_nil_of_mem hm
theorem near_mv {r : Nat} {L : Lanes} {k : Nat} {m : Nat × Nat} (h : m ∈ nearL r L k) : Mv r L m ∧ m.1 = k := by
  obtain ⟨h1, h2⟩ := List.mem_filter.1 h
  exact ⟨mv_of.1 h1, by simpa using h2⟩
/-- one turn -/
theorem turn_out {r : Nat} {L : Lanes} (o : Ok r L) {c : Nat} (hc : c ∈ L.flatten) (hb : bef L c ≠ []) {m : Nat × Nat} (hm : Mv r L m) (hk : m.1 = idx L c) : idx (dm L m) c = idx L c ∧ pos (dm L m) c = pos L c ∧ (bef (dm L m) c).length + 1 = (bef L c).length := by
  have hbl : 0 < (bef L c).length := List.length_pos_iff.2 hb
  have hcl := mem_lane hc
  have hne : c ≠ topOf (lanN L m.1) := fun e => by
    have n1 := lane_nd o.nd hm.h1
    have hs := top_split hm.full
    rw [← hs] at n1
    have := idxOf_last n1
    rw [hs, ← e, hk, ← lane_eq] at this
    have h2 := congrArg List.length hs
    rw [hk, ← lane_eq] at h2
    simp at h2
    rw [bef_len] at hbl
    unfold pos at hbl
    simp at this
    omega
  obtain ⟨e1, e2⟩ := place_dm o hm hc hne
  refine ⟨e1, e2, ?_⟩
  have hl : (lane (dm L m) c).length + 1 = (lane L c).length := by
    rw [lane_eq, e1, lanN_dm hm, if_pos hk.symm, lane_eq, ← hk]
    have := List.length_pos_iff.2 hm.full
    simp; omega
  rw [bef_len, bef_len, e2]
  rw [bef_len] at hbl
  omega
theorem bef_le {r : Nat} {L : Lanes} (o : Ok r L) {c : Nat} (hc : c ∈ L.flatten) : (bef L c).length ≤ 3 := by
  have h1 : (lane L c).length ≤ r := o.len _ (lanN_mem.2 ⟨_, idx_lt hc, rfl⟩)
  have := o.r4
  rw [bef_len]; omega
/-! ### draws -/
theorem ev_mod {i j : Int} (h : 0 < j) : D.mod (.int i) (.int j) = .ok (.int (i % j)) := by
  show (if 0 < j then R.ok (D.int (i % j)) else .bad) = _
  rw [if_pos h]
theorem ev_fdiv {i j : Int} (h : 0 < j) (h2 : j ≤ 18446744073709551615) : D.fdivW (.int i) (.int j) = .ok (.int (i / j)) := by
  show (if 0 < j ∧ wid 18446744073709551615 j = true then R.ok (D.int (i / j)) else .bad) = _
  rw [if_pos ⟨h, wid_iff.2 ⟨by omega, by omega⟩⟩]
theorem ev_mulR {i j : Int} (h0 : 0 ≤ i) (h1 : i ≤ 1000000000000) : D.mul (.int i) (.int j) = .ok (.int (i * j)) := ev_mulI h0 h1
def tailD : DEnv → Out := (seqS (setS 3 (bin D.mod (bin D.add (bin D.mul (bin D.mod (getV 3) (cst (.int 2147483563))) (cst (.int 69069))) (bin D.mul (cst (.int 104723)) (bin D.add (getV 1) (cst (.int 1))))) (cst (.int 2147483563)))) (seqS (setS 3 (bin D.mod (bin D.add (bin D.mul (getV 3) (getV 3)) (bin D.fdivW (getV 3) (cst (.int 3)))) (cst (.int 2147483399)))) (retS (bin D.mod (bin D.fdivW (bin D.mod (bin D.add (bin D.mul (getV 3) (getV 3)) (bin D.fdivW (getV 3) (cst (.int 7)))) (cst (.int 2147483647))) (cst (.int 11))) (getV 2)))))
theorem tail_ok {S x4 x5 : Option D} {k cell : Int} {many : Nat} (hm : 1 ≤ many) : ∃ d : Nat, d < many ∧ tailD [S, some (.int k), some (.int many), some (.int cell), x4, x5] = .ret (.int d) := by
  have f1 : ∀ c : Int, D.mod (.int c) (.int 2147483563) = .ok (.int (c % 2147483563)) := fun c => ev_mod (by decide)
  have f2 : ∀ c : Int, D.mul (.int (c % 2147483563)) (.int 69069) = .ok (.int (c % 2147483563 * 69069)) := fun c => ev_mulR (by omega) (by omega)
  have f3 : ∀ j : Int, D.mul (.int 104723) (.int j) = .ok (.int (104723 * j)) := fun j => ev_mulR (by decide) (by decide)
  have f4 : ∀ c : Int, D.mul (.int (c % 2147483563)) (.int (c % 2147483563)) = .ok (.int (c % 2147483563 * (c % 2147483563))) := fun c => ev_mulR (by omega) (by omega)
  have f5 : ∀ c : Int, D.mod (.int c) (.int 2147483399) = .ok (.int (c % 2147483399)) := fun c => ev_mod (by decide)
  have f6 : ∀ c : Int, D.mul (.int (c % 2147483399)) (.int (c % 2147483399)) = .ok (.int (c % 2147483399 * (c % 2147483399))) := fun c => ev_mulR (by omega) (by omega)
  have f7 : ∀ c : Int, D.fdivW (.int c) (.int 3) = .ok (.int (c / 3)) := fun c => ev_fdiv (by decide) (by decide)
  have f8 : ∀ c : Int, D.fdivW (.int c) (.int 7) = .ok (.int (c / 7)) := fun c => ev_fdiv (by decide) (by decide)
  have f9 : ∀ c : Int, D.fdivW (.int c) (.int 11) = .ok (.int (c / 11)) := fun c => ev_fdiv (by decide) (by decide)
  have f10 : ∀ c : Int, D.mod (.int c) (.int 2147483647) = .ok (.int (c % 2147483647)) := fun c => ev_mod (by decide)
  have f11 : ∀ c : Int, D.mod (.int c) (.int many) = .ok (.int (c % many)) := fun c => ev_mod (by omega)
  have key : ∃ z : Int, tailD [S, some (.int k), some (.int many), some (.int cell), x4, x5] = .ret (.int (z % many)) := by
    unfold tailD
    simp only [ev_seq, ev_set, ev_ret, ev_bin, ev_get, ev_cst, List.getElem?_cons_succ, List.getElem?_cons_zero, R.ok_bind, f1, f2, f3, ev_addI, ev_inS, List.set_cons_succ, List.set_cons_zero, f4, f7, f5, f6, f8, f10, f9, f11]
    exact ⟨_, rfl⟩
  obtain ⟨z, hz⟩ := key
  have h0 : 0 ≤ z % many := Int.emod_nonneg z (by omega)
  have h1 : z % many < many := Int.emod_lt_of_pos z (by omega)
  exact ⟨(z % many).toNat, by omega, by rw [hz, Int.toNat_of_nonneg h0]⟩
/-! ### the yard that the script draws -/
structure YI (r n s k : Nat) (L : Lanes) : Prop where
  n : L.length = n
  len : ∀ l ∈ L, l.length ≤ r
  from_ : ∀ c ∈ L.flatten, ∃ k', k' < k ∧ c = 97 + (s + 3 * k') % 8
  nd : L.flatten.Nodup
  cars : L.flatten.length ≤ k
theorem set_perm {L : Lanes} {p c : Nat} (hp : p < L.length) : (L.set p (lanN L p ++ [c])).flatten.Perm (c :: L.flatten) := by
  rw [List.perm_iff_count]
  intro z
  have := cnt_set z L p (lanN L p ++ [c]) hp
  simp only [List.count_append, List.count_cons, List.count_nil] at this ⊢
  omega
theorem YI.step {r n s k : Nat} {L : Lanes} (h : YI r n s k L) (hk : k < 8) {p : Nat} (hp : p < L.length) (hr : (lanN L p).length < r) : YI r n s (k + 1) (L.set p (lanN L p ++ [97 + (s + 3 * k) % 8])) := by
  have pm := set_perm (c := 97 + (s + 3 * k) % 8) hp
  refine ⟨by rw [List.length_set]; exact h.n, fun l hl => ?_, fun c hc => ?_, ?_, by rw [pm.length_eq]; have := h.cars; simp only [List.length_cons]; omega⟩
  · obtain ⟨j, hj, rfl⟩ := lanN_mem.1 hl
    rw [lanN_set hp]
    split
    · simp; omega
    · exact h.len _ (lanN_mem.2 ⟨j, by simpa using hj, rfl⟩)
  · rcases List.mem_cons.1 (pm.mem_iff.1 hc) with e | e
    · exact ⟨k, by omega, e⟩
    · obtain ⟨k', h1, h2⟩ := h.from_ c e
      exact ⟨k', by omega, h2⟩
  · rw [pm.nodup_iff, List.nodup_cons]
    refine ⟨fun hm => ?_, h.nd⟩
    obtain ⟨k', h1, h2⟩ := h.from_ _ hm
    omega
theorem YI.mono {r n s k : Nat} {L : Lanes} (h : YI r n s k L) : YI r n s (k + 1) L := ⟨h.n, h.len, fun c hc => let ⟨k', a, b⟩ := h.from_ c hc; ⟨k', by omega, b⟩, h.nd, Nat.le_succ_of_le h.cars⟩
theorem YI.ok {r n s k : Nat} {L : Lanes} (h : YI r n s k L) (r1 : 1 ≤ r) (r4 : r ≤ 4) (n1 : 1 ≤ n) (n4 : n ≤ 4) : Ok r L :=
  ⟨r1, r4, by rw [h.n]; exact n1, by rw [h.n]; exact n4, h.len, fun l hl c hc => by
    obtain ⟨k', _, e⟩ := h.from_ c (List.mem_flatten.2 ⟨l, hl, hc⟩)
    have : (s + 3 * k') % 8 < 8 := Nat.mod_lt _ (by decide)
    unfold isL
    simp
    omega, h.nd⟩
theorem letter {j : Nat} (h : j < 8) : ([97, 98, 99, 100, 101, 102, 103, 104] : List Nat)[j]? = some (97 + j) := by
  have : j = 0 ∨ j = 1 ∨ j = 2 ∨ j = 3 ∨ j = 4 ∨ j = 5 ∨ j = 6 ∨ j = 7 := by omega
  rcases this with e | e | e | e | e | e | e | e <;> subst e <;> rfl
/-! ### _law_later -/
theorem shut_dm {r : Nat} {L : Lanes} {m : Nat × Nat} (o : Ok r L) (h : Mv r L m) : shut r (dm L m) = shut r L := by
  unfold shut
  rw [srt_congr (dm_perm h)]
  apply List.filter_congr
  intro c hc
  have := few_dm o h (mem_srt.1 hc)
  rw [← Option.not_isSome, ← Option.not_isSome, this]
theorem mem_shut {r : Nat} {L : Lanes} {c : Nat} : c ∈ shut r L ↔ c ∈ L.flatten ∧ few r L c = none := by
  unfold shut
  rw [List.mem_filter, mem_srt]
  simp [-List.mem_flatten]
theorem neNil : D.ne (.lst []) (.lst []) = .ok (.bl false) := rfl
theorem shut_len {r : Nat} {L : Lanes} (o : Ok r L) : (shut r L).length ≤ 16 := by
  have := srt_len o
  have := List.length_filter_le (fun c => (few r L c).isNone) (srt L.flatten)
  unfold shut; omega
theorem lanN_wide {L : Lanes} {k : Nat} (hk : k < L.length) : lanN (L ++ [[]]) k = lanN L k := by
  unfold lanN
  rw [List.getD_eq_getElem?_getD, List.getD_eq_getElem?_getD, List.getElem?_append_left hk]
theorem Ok.wide {r : Nat} {L : Lanes} (o : Ok r L) (h : L.length < 4) : Ok r (L ++ [[]]) := by
  refine ⟨o.r1, o.r4, by simp, by simp; omega, fun l hl => ?_, fun l hl c hc => ?_, by simpa using o.nd⟩
  · rcases List.mem_append.1 hl with e | e
    · exact o.len l e
    · simp at e; subst e; simp
  · rcases List.mem_append.1 hl with e | e
    · exact o.let_ l e c hc
    · simp at e; subst e; simp at hc
theorem few_wide {r : Nat} {L : Lanes} (o : Ok r L) (h : L.length < 4) {c : Nat} (hc : c ∈ L.flatten) : (few r (L ++ [[]]) c).isSome = true := by
  have hc' : c ∈ (L ++ [[]]).flatten := by simpa using hc
  have ht := flat_le o.len
  rw [few_iff hc', if_pos]
  · rfl
  · have e : (L ++ [[]]).flatten = L.flatten := by simp
    rw [e]
    simp only [List.length_append, List.length_cons, List.length_nil, Nat.mul_add]
    omega
theorem shut_wide {r : Nat} {L : Lanes} (o : Ok r L) (h : L.length < 4) : shut r (L ++ [[]]) = [] := by
  unfold shut
  rw [List.filter_eq_nil_iff]
  intro c hc
  have e : (L ++ [[]]).flatten = L.flatten := by simp
  rw [e] at hc
  have := few_wide o h (mem_srt.1 hc)
  rw [← Option.not_isSome, this]
  simp
/-! ### the law's loop -/
theorem mem_frees {r : Nat} {L : Lanes} (o : Ok r L) {c : Nat} (hc : c ∈ L.flatten) : c ∈ frees L ↔ bef L c = [] := by
  have hb := bef_len (L := L) (c := c)
  have hp := pos_lt hc
  unfold frees
  rw [mem_srt, List.mem_map]
  constructor
  · rintro ⟨l, hl, rfl⟩
    obtain ⟨h1, h2⟩ := List.mem_filter.1 hl
    have hne : l ≠ [] := by simpa using h2
    obtain ⟨k, hk, rfl⟩ := lanN_mem.1 h1
    have hs := top_split hne
    have hin : topOf (lanN L k) ∈ lanN L k := by
      have := List.mem_append_right (lanN L k).dropLast (List.mem_singleton.2 rfl : topOf (lanN L k) ∈ [topOf (lanN L k)])
      rwa [hs] at this
    have hi := idx_eq o.nd hk hin
    have n1 := lane_nd o.nd hk
    rw [← hs] at n1
    have e := idxOf_last n1
    rw [hs] at e
    apply List.length_eq_zero_iff.1
    rw [hb]
    unfold pos
    rw [lane_eq, hi, e]
    have := congrArg List.length hs
    simp at this ⊢
    omega
  · intro h
    rw [h] at hb
    simp only [List.length_nil] at hb
    have hne : lane L c ≠ [] := fun e => by rw [e] at hp; simp at hp
    refine ⟨lane L c, List.mem_filter.2 ⟨lanN_mem.2 ⟨_, idx_lt hc, rfl⟩, by simpa using hne⟩, ?_⟩
    have e := topOf_eq hne
    rw [List.getLast?_eq_getElem?, show (lane L c).length - 1 = pos L c from by omega] at e
    have e2 : (lane L c)[pos L c]? = some c := by
      rw [List.getElem?_eq_getElem hp]
      congr 1
      exact List.getElem_idxOf hp
    rw [e2] at e
    exact (Option.some.inj e).symm
theorem srt_strict {l : List Nat} (nd : l.Nodup) : (srt l).Pairwise (· < ·) := by
  have h1 := srt_sorted l
  have h2 : (srt l).Nodup := (srt_perm l).nodup_iff.2 nd
  exact (List.pairwise_and_iff.2 ⟨h1, h2⟩).imp fun ⟨a, b⟩ => Nat.lt_of_le_of_ne a b
theorem neSame (m : Nat × Nat) : D.ne (mvD m) (mvD m) = .ok (.bl false) := by
  simp [D.ne, mvD, D.plain, D.plains, D.dep, D.deps, D.eqv, D.eqvs]
theorem neMv (ms : List (Nat × Nat)) : D.ne (.lst (ms.map mvD)) (.lst []) = .ok (.bl !ms.isEmpty) := by
  have hp : D.plain (.lst (ms.map mvD)) = true := by
    simp only [D.plain]
    induction ms with
    | nil => rfl
    | cons x l ih => simp only [List.map_cons, D.plains, ih, mvD, D.plain, Bool.and_true]
  unfold D.ne
  have hd : min (D.dep (.lst (ms.map mvD))) (D.dep (.lst [])) ≤ 60 := by
    have : D.dep (.lst []) ≤ 60 := by decide
    omega
  rw [hp, show D.plain (.lst []) = true from rfl, decide_eq_true hd]
  simp only [Bool.and_self, if_true]
  congr 2
  cases ms with
  | nil => rfl
  | cons x l => simp [D.eqv, D.eqvs]
end CY

namespace CY
open CL
/-! ### ways to put rows into one row -/
def chs : Nat → Nat → Nat
  | _, 0 => 1
  | 0, _ + 1 => 0
  | n + 1, k + 1 => chs n k + chs n (k + 1)
def fac : Nat → Nat
  | 0 => 1
  | n + 1 => (n + 1) * fac n
theorem fac_pos : ∀ n, 0 < fac n
  | 0 => by decide
  | n + 1 => Nat.mul_pos (by omega) (fac_pos n)
theorem chs_zero (n : Nat) : chs n 0 = 1 := by cases n <;> rfl
theorem chs_big : ∀ {n k : Nat}, n < k → chs n k = 0
  | 0, k + 1, _ => rfl
  | n + 1, k + 1, h => by simp [chs, chs_big (show n < k by omega), chs_big (show n < k + 1 by omega)]
theorem chs_mul : ∀ n k : Nat, (n + 1) * chs n k = chs (n + 1) (k + 1) * (k + 1)
  | 0, 0 => rfl
  | 0, k + 1 => by simp [chs]
  | n + 1, 0 => by
    have := chs_mul n 0
    simp only [chs_zero, Nat.mul_one, Nat.zero_add] at this ⊢
    have e : chs (n + 1 + 1) 1 = 1 + chs (n + 1) 1 := by rw [chs, chs_zero]
    omega
  | n + 1, k + 1 => by
    have h1 := chs_mul n k
    have h2 := chs_mul n (k + 1)
    have e1 : chs (n + 1) (k + 1) = chs n k + chs n (k + 1) := rfl
    have e2 : chs (n + 1 + 1) (k + 1 + 1) = chs (n + 1) (k + 1) + chs (n + 1) (k + 2) := rfl
    have e3 : (n + 1) * chs (n + 1) (k + 1) = chs (n + 1) (k + 1) * (k + 1) + chs (n + 1) (k + 2) * (k + 2) := by rw [e1, Nat.mul_add, h1, h2, e1]
    have e4 : (n + 1 + 1) * chs (n + 1) (k + 1) = (n + 1) * chs (n + 1) (k + 1) + chs (n + 1) (k + 1) := by rw [Nat.add_mul, Nat.one_mul]
    have e5 : (chs (n + 1) (k + 1) + chs (n + 1) (k + 2)) * (k + 1 + 1) = chs (n + 1) (k + 1) * (k + 1) + chs (n + 1) (k + 1) + chs (n + 1) (k + 2) * (k + 2) := by rw [Nat.add_mul, Nat.mul_add (chs (n + 1) (k + 1)), Nat.mul_one]
    rw [e2, e4, e5, e3]
    omega
theorem chs_fac : ∀ m l : Nat, chs (m + l) l * fac l * fac m = fac (m + l)
  | m, 0 => by simp [chs_zero, fac]
  | m, l + 1 => by
    have ih := chs_fac m l
    have h := chs_mul (m + l) l
    have e : chs (m + (l + 1)) (l + 1) * fac (l + 1) = (m + l + 1) * (chs (m + l) l * fac l) := by
      show chs (m + l + 1) (l + 1) * ((l + 1) * fac l) = _
      rw [← Nat.mul_assoc, ← h, Nat.mul_assoc]
    rw [e, Nat.mul_assoc, ih]
    rfl
def mn (m : Nat) : List Nat → Nat
  | [] => 1
  | l :: ls => chs (m + l) l * mn (m + l) ls
def pf : List Nat → Nat
  | [] => 1
  | l :: ls => fac l * pf ls
theorem pf_pos : ∀ ls, 0 < pf ls
  | [] => by decide
  | l :: ls => Nat.mul_pos (fac_pos l) (pf_pos ls)
theorem mn_fac : ∀ (ls : List Nat) (m : Nat), mn m ls * pf ls * fac m = fac (m + ls.sum)
  | [], m => by simp [mn, pf]
  | l :: ls, m => by
    have ih := mn_fac ls (m + l)
    have h := chs_fac m l
    simp only [mn, pf, List.sum_cons]
    rw [show m + (l + ls.sum) = m + l + ls.sum from by omega, ← ih, ← h]
    rw [Nat.mul_mul_mul_comm, Nat.mul_comm (chs (m + l) l * fac l), Nat.mul_assoc]
theorem mn0 (ls : List Nat) : mn 0 ls * pf ls = fac ls.sum := by
  have := mn_fac ls 0
  simpa [fac] using this
theorem mn_pos (ls : List Nat) : 0 < mn 0 ls := by
  rcases Nat.eq_zero_or_pos (mn 0 ls) with h | h
  · have := mn0 ls
    rw [h, Nat.zero_mul] at this
    have := fac_pos ls.sum
    omega
  · exact h
theorem mn_le (ls : List Nat) : mn 0 ls ≤ fac ls.sum := by
  rw [← mn0]
  exact Nat.le_mul_of_pos_right _ (pf_pos ls)
theorem pf_perm {a b : List Nat} (h : a.Perm b) : pf a = pf b := by
  induction h with
  | nil => rfl
  | cons x _ ih => simp [pf, ih]
  | swap x y l => simp [pf, ← Nat.mul_assoc, Nat.mul_comm (fac y)]
  | trans _ _ h1 h2 => exact h1.trans h2
theorem sum_perm {a b : List Nat} (h : a.Perm b) : a.sum = b.sum := by
  induction h with
  | nil => rfl
  | cons x _ ih => simp [ih]
  | swap x y l => simp; omega
  | trans _ _ h1 h2 => exact h1.trans h2
theorem mn_perm {a b : List Nat} (h : a.Perm b) : mn 0 a = mn 0 b := by
  have h1 := mn0 a
  have h2 := mn0 b
  rw [pf_perm h, sum_perm h, ← h2] at h1
  exact Nat.eq_of_mul_eq_mul_right (pf_pos b) h1
theorem pf_set : ∀ (ls : List Nat) (i : Nat) {l : Nat}, ls[i]? = some (l + 1) → pf ls = pf (ls.set i l) * (l + 1)
  | [], i, l, h => by simp at h
  | x :: ls, 0, l, h => by
    have : x = l + 1 := by simpa using h
    subst this
    simp only [List.set_cons_zero, pf, fac]
    rw [Nat.mul_assoc, Nat.mul_comm]
  | x :: ls, i + 1, l, h => by
    have := pf_set ls i (l := l) (by simpa using h)
    simp only [List.set_cons_succ, pf]
    rw [this, Nat.mul_assoc]
theorem sum_set : ∀ (ls : List Nat) (i : Nat) {l : Nat}, ls[i]? = some (l + 1) → ls.sum = (ls.set i l).sum + 1
  | [], i, l, h => by simp at h
  | x :: ls, 0, l, h => by
    have : x = l + 1 := by simpa using h
    subst this
    simp; omega
  | x :: ls, i + 1, l, h => by
    have := sum_set ls i (l := l) (by simpa using h)
    simp only [List.set_cons_succ, List.sum_cons]
    omega
theorem mn_set {ls : List Nat} {i l n : Nat} (h : ls[i]? = some (l + 1)) (hn : ls.sum = n + 1) : mn 0 (ls.set i l) * pf ls = (l + 1) * fac n := by
  have h1 := pf_set ls i h
  have h2 := sum_set ls i h
  have h3 := mn0 (ls.set i l)
  rw [h1, ← Nat.mul_assoc, h3, Nat.mul_comm, show (ls.set i l).sum = n from by omega]
/-- the ways that begin with row i -/
def dec (ls : List Nat) (i : Nat) : Nat := match ls[i]? with
  | some (l + 1) => mn 0 (ls.set i l)
  | _ => 0
theorem dec_mul {ls : List Nat} {n : Nat} (hn : ls.sum = n + 1) (i : Nat) : dec ls i * pf ls = (ls[i]?.getD 0) * fac n := by
  unfold dec
  cases h : ls[i]? with
  | none => simp
  | some v =>
    cases v with
    | zero => simp
    | succ l => simpa using mn_set h hn
theorem sum_mulr (k : Nat) : ∀ l : List Nat, l.sum * k = (l.map (· * k)).sum
  | [] => by simp
  | x :: l => by simp [Nat.add_mul, sum_mulr k l]
theorem get_range : ∀ ls : List Nat, (List.range ls.length).map (fun i => ls[i]?.getD 0) = ls
  | [] => rfl
  | x :: ls => by
    rw [List.length_cons, List.range_succ_eq_map, List.map_cons, List.map_map]
    have := get_range ls
    simp only [List.getElem?_cons_zero, Option.getD_some]
    congr 1
theorem mn_rec {ls : List Nat} (h : ls.sum ≠ 0) : ((List.range ls.length).map (dec ls)).sum = mn 0 ls := by
  obtain ⟨n, hn⟩ := Nat.exists_eq_succ_of_ne_zero h
  have h1 := mn0 ls
  apply Nat.eq_of_mul_eq_mul_right (pf_pos ls)
  rw [h1, sum_mulr, List.map_map, hn]
  have e : ((fun x => x * pf ls) ∘ dec ls) = fun i => (ls[i]?.getD 0) * fac n := funext fun i => dec_mul hn i
  rw [e]
  have e2 : (List.range ls.length).map (fun i => (ls[i]?.getD 0) * fac n) = ((List.range ls.length).map (fun i => ls[i]?.getD 0)).map (· * fac n) := by rw [List.map_map]; rfl
  rw [e2, get_range, ← sum_mulr, hn]
  rfl
end CY

namespace CY
open CL
/-! ### cars that leave -/
def tops (L : Lanes) : List Nat := (L.filter fun l => l != []).map topOf
theorem frees_eq (L : Lanes) : frees L = srt (tops L) := rfl
def rm (L : Lanes) (c : Nat) : Lanes := L.set (idx L c) (lane L c).dropLast
def lens (L : Lanes) : List Nat := L.map List.length
def cnt (L : Lanes) : Nat := mn 0 (lens L)
theorem lens_sum (L : Lanes) : (lens L).sum = L.flatten.length := by rw [List.length_flatten]; rfl
theorem topOf_mem {l : List Nat} (h : l ≠ []) : topOf l ∈ l := by
  have := List.mem_append_right l.dropLast (List.mem_singleton.2 rfl : topOf l ∈ [topOf l])
  rwa [top_split h] at this
theorem mem_tops {r : Nat} {L : Lanes} (o : Ok r L) {c : Nat} : c ∈ tops L ↔ c ∈ L.flatten ∧ topOf (lane L c) = c := by
  unfold tops
  rw [List.mem_map]
  constructor
  · rintro ⟨l, hl, rfl⟩
    obtain ⟨h1, h2⟩ := List.mem_filter.1 hl
    have hne : l ≠ [] := by simpa using h2
    obtain ⟨k, hk, rfl⟩ := lanN_mem.1 h1
    have hin := topOf_mem hne
    have hi := idx_eq o.nd hk hin
    exact ⟨List.mem_flatten.2 ⟨_, h1, hin⟩, by rw [lane_eq, hi]⟩
  · rintro ⟨h1, h2⟩
    have hm := mem_lane h1
    exact ⟨lane L c, List.mem_filter.2 ⟨lanN_mem.2 ⟨_, idx_lt h1, rfl⟩, by simpa using List.ne_nil_of_mem hm⟩, h2⟩
theorem mem_frees' {r : Nat} {L : Lanes} (o : Ok r L) {c : Nat} : c ∈ frees L ↔ c ∈ L.flatten ∧ bef L c = [] := by
  constructor
  · intro h
    have h1 := ((mem_tops o).1 (mem_srt.1 h)).1
    exact ⟨h1, (mem_frees o h1).1 h⟩
  · rintro ⟨h1, h2⟩
    exact (mem_frees o h1).2 h2
/-- c stands at the open end -/
def Tp (L : Lanes) (c : Nat) : Prop := c ∈ L.flatten ∧ topOf (lane L c) = c
theorem tp_iff {r : Nat} {L : Lanes} (o : Ok r L) {c : Nat} : c ∈ frees L ↔ Tp L c := by
  rw [frees_eq, mem_srt]; exact mem_tops o
theorem Tp.split {L : Lanes} {c : Nat} (h : Tp L c) : (lane L c).dropLast ++ [c] = lane L c := by
  have := top_split (List.ne_nil_of_mem (mem_lane h.1))
  rwa [h.2] at this
theorem rm_len (L : Lanes) (c : Nat) : (rm L c).length = L.length := by simp [rm]
theorem lanN_rm {L : Lanes} {c : Nat} (h : Tp L c) (k : Nat) : lanN (rm L c) k = if k = idx L c then (lane L c).dropLast else lanN L k := lanN_set (idx_lt h.1)
theorem rm_perm {L : Lanes} {c : Nat} (h : Tp L c) : (c :: (rm L c).flatten).Perm L.flatten := by
  rw [List.perm_iff_count]
  intro z
  have e1 := cnt_set z L (idx L c) (lane L c).dropLast (idx_lt h.1)
  have e2 := congrArg (List.count z) h.split
  rw [← lane_eq] at e1
  simp only [List.count_append, List.count_cons, List.count_nil] at e2 ⊢
  unfold rm
  omega
theorem rm_tot {L : Lanes} {c : Nat} (h : Tp L c) : (rm L c).flatten.length + 1 = L.flatten.length := by
  have := (rm_perm h).length_eq
  simpa using this
theorem Ok.rm {r : Nat} {L : Lanes} {c : Nat} (o : Ok r L) (h : Tp L c) : Ok r (rm L c) := by
  have pm := rm_perm h
  have nd : (c :: (CY.rm L c).flatten).Nodup := pm.nodup_iff.2 o.nd
  refine ⟨o.r1, o.r4, by rw [rm_len]; exact o.n1, by rw [rm_len]; exact o.n4, fun l hl => ?_, fun l hl z hz => ?_, (List.nodup_cons.1 nd).2⟩
  · obtain ⟨k, hk, rfl⟩ := lanN_mem.1 hl
    rw [rm_len] at hk
    rw [lanN_rm h]
    split
    · have := o.len (lane L c) (lanN_mem.2 ⟨_, idx_lt h.1, rfl⟩)
      simp; omega
    · exact o.len _ (lanN_mem.2 ⟨k, hk, rfl⟩)
  · exact o.isL (pm.mem_iff.1 (List.mem_cons_of_mem _ (List.mem_flatten.2 ⟨l, hl, hz⟩)))
theorem rm_not {r : Nat} {L : Lanes} {c : Nat} (o : Ok r L) (h : Tp L c) : c ∉ (rm L c).flatten :=
  (List.nodup_cons.1 ((rm_perm h).nodup_iff.2 o.nd)).1
theorem mem_rm {r : Nat} {L : Lanes} {c x : Nat} (o : Ok r L) (h : Tp L c) : x ∈ (rm L c).flatten ↔ x ∈ L.flatten ∧ x ≠ c := by
  have pm := (rm_perm h).mem_iff (a := x)
  rw [← pm, List.mem_cons]
  constructor
  · intro hx
    exact ⟨.inr hx, fun e => rm_not o h (e ▸ hx)⟩
  · rintro ⟨hx | hx, hne⟩
    · exact absurd hx hne
    · exact hx
/-! where the others stand then -/
theorem idx_rm {r : Nat} {L : Lanes} {h c : Nat} (o : Ok r L) (t : Tp L h) (hc : c ∈ L.flatten) (hne : c ≠ h) : idx (rm L h) c = idx L c := by
  refine idx_eq (o.rm t).nd (by rw [rm_len]; exact idx_lt hc) ?_
  have hm := mem_lane hc
  rw [lanN_rm t]
  split
  · rename_i e
    have e2 : lane L c = lane L h := by rw [lane_eq, lane_eq, e]
    rw [e2, ← t.split] at hm
    rcases List.mem_append.1 hm with z | z
    · exact z
    · exact absurd (by simpa using z) hne
  · exact hm
theorem bef_rm {r : Nat} {L : Lanes} {h c : Nat} (o : Ok r L) (t : Tp L h) (hc : c ∈ L.flatten) (hne : c ≠ h) : bef L c = if idx L c = idx L h then h :: bef (rm L h) c else bef (rm L h) c := by
  have e1 := idx_rm o t hc hne
  have hm := mem_lane hc
  unfold bef
  rw [lane_eq (rm L h), e1, lanN_rm t]
  split
  · rename_i e
    have e2 : lane L c = lane L h := by rw [lane_eq, lane_eq, e]
    rw [e2, ← t.split] at hm ⊢
    have hd : c ∈ (lane L h).dropLast := by
      rcases List.mem_append.1 hm with z | z
      · exact z
      · exact absurd (by simpa using z) hne
    have hl := List.idxOf_lt_length_of_mem hd
    rw [List.idxOf_append, if_pos hd, List.drop_append_of_le_length (by omega), List.reverse_append, t.split]
    rfl
  · rw [lane_eq]
theorem bef_keep {r : Nat} {L : Lanes} {h c x : Nat} (o : Ok r L) (t : Tp L h) (hc : c ∈ L.flatten) (hne : c ≠ h) (hx : x ∈ bef L c) (hxh : x ≠ h) : x ∈ bef (rm L h) c := by
  rw [bef_rm o t hc hne] at hx
  split at hx
  · rcases List.mem_cons.1 hx with e | e
    · exact absurd e hxh
    · exact e
  · exact hx
theorem bef_mem {L : Lanes} {c x : Nat} (hc : c ∈ L.flatten) (h : x ∈ bef L c) : x ∈ L.flatten := by
  unfold bef at h
  exact List.mem_flatten.2 ⟨lane L c, lanN_mem.2 ⟨_, idx_lt hc, rfl⟩, List.mem_of_mem_drop (List.mem_reverse.1 h)⟩
/-! ### counting -/
theorem lanes_range (L : Lanes) : (List.range L.length).map (lanN L) = L := by
  apply List.ext_getElem?
  intro i
  rw [List.getElem?_map]
  by_cases h : i < L.length
  · rw [List.getElem?_range h, Option.map_some, lanN_get h]
  · rw [List.getElem?_eq_none (by simpa using h), List.getElem?_eq_none (by simpa using h)]; rfl
theorem tops_range (L : Lanes) : tops L = ((List.range L.length).filter fun i => lanN L i != []).map fun i => topOf (lanN L i) := by
  unfold tops
  conv => lhs; rw [← lanes_range L]
  rw [List.filter_map, List.map_map]
  rfl
theorem lens_get {L : Lanes} {i : Nat} (h : i < L.length) : (lens L)[i]? = some (lanN L i).length := by
  unfold lens
  rw [List.getElem?_map, lanN_get h]; rfl
theorem cnt_rm {r : Nat} {L : Lanes} (o : Ok r L) {i : Nat} (h : i < L.length) (hne : lanN L i ≠ []) : cnt (rm L (topOf (lanN L i))) = dec (lens L) i := by
  have hi := idx_eq o.nd h (topOf_mem hne)
  have hp := List.length_pos_iff.2 hne
  unfold dec
  rw [lens_get h]
  obtain ⟨n, hn⟩ := Nat.exists_eq_succ_of_ne_zero (Nat.ne_of_gt hp)
  rw [hn]
  show mn 0 (lens (rm L (topOf (lanN L i)))) = mn 0 ((lens L).set i n)
  unfold rm lens
  rw [lane_eq, hi, List.map_set, List.length_dropLast, hn]
  rfl
theorem sum_filter {α : Type} (f : α → Nat) (p : α → Bool) : ∀ l : List α, (∀ x ∈ l, p x = false → f x = 0) → ((l.filter p).map f).sum = (l.map f).sum
  | [], _ => rfl
  | x :: l, h => by
    have ih := sum_filter f p l fun y hy => h y (by simp [hy])
    cases e : p x with
    | true => simp [List.filter_cons, e, ih]
    | false => simp [List.filter_cons, e, ih, h x (by simp) e]
theorem cnt_rec {r : Nat} {L : Lanes} (o : Ok r L) (h : L.flatten ≠ []) : ((frees L).map fun c => cnt (rm L c)).sum = cnt L := by
  have pm : ((frees L).map fun c => cnt (rm L c)).Perm ((tops L).map fun c => cnt (rm L c)) := (srt_perm (tops L)).map _
  rw [sum_perm pm, tops_range, List.map_map]
  have e : ((List.range L.length).filter fun i => lanN L i != []).map ((fun c => cnt (rm L c)) ∘ fun i => topOf (lanN L i)) = ((List.range L.length).filter fun i => lanN L i != []).map (dec (lens L)) := by
    apply List.map_congr_left
    intro i hi
    obtain ⟨h1, h2⟩ := List.mem_filter.1 hi
    exact cnt_rm o (by simpa using h1) (by simpa using h2)
  rw [e, sum_filter]
  · have hl : L.length = (lens L).length := by simp [lens]
    rw [hl]
    exact mn_rec (by rw [lens_sum]; exact fun z => h (List.length_eq_zero_iff.1 z))
  · intro i hi hp
    have hi : i < L.length := by simpa using hi
    have he : lanN L i = [] := by simpa using hp
    unfold dec
    rw [lens_get hi, he]
    rfl
theorem cnt_pos (L : Lanes) : 0 < cnt L := mn_pos _
theorem nodup_le : ∀ (a l : List Nat), l.Nodup → (∀ x ∈ l, x ∈ a) → l.length ≤ a.length
  | [], l, _, h => by
    cases l with
    | nil => simp
    | cons x l => exact absurd (h x (by simp)) (by simp)
  | z :: a, l, nd, h => by
    have ih := nodup_le a (l.erase z) (nd.erase z) fun x hx => by
      have hne : x ≠ z := fun e => by
        subst e
        exact (List.Nodup.not_mem_erase nd) hx
      rcases List.mem_cons.1 (h x (List.mem_of_mem_erase hx)) with e | e
      · exact absurd e hne
      · exact e
    have := List.length_erase (a := z) (l := l)
    split at this <;> simp only [List.length_cons] <;> omega
theorem Ok.le8 {r : Nat} {L : Lanes} (o : Ok r L) : L.flatten.length ≤ 8 :=
  nodup_le [97, 98, 99, 100, 101, 102, 103, 104] L.flatten o.nd fun x hx => by
    have := o.isL hx
    simpa [CY.isL] using this
theorem fac_mono : ∀ {a b : Nat}, a ≤ b → fac a ≤ fac b
  | a, 0, h => by have : a = 0 := by omega
                  subst this; exact Nat.le_refl _
  | a, b + 1, h => by
    rcases Nat.lt_or_ge a (b + 1) with h1 | h1
    · have := fac_mono (show a ≤ b by omega)
      exact Nat.le_trans this (Nat.le_mul_of_pos_left _ (by omega))
    · have : a = b + 1 := by omega
      subst this; exact Nat.le_refl _
theorem cnt_le8 {r : Nat} {L : Lanes} (o : Ok r L) : cnt L ≤ 40320 := by
  have h1 := mn_le (lens L)
  rw [lens_sum] at h1
  exact Nat.le_trans h1 (Nat.le_trans (fac_mono o.le8) (by decide))
theorem frees_strict {r : Nat} {L : Lanes} (o : Ok r L) : (frees L).Pairwise (· < ·) := by
  refine srt_strict ?_
  rw [← tops, tops_range, List.nodup_iff_pairwise_ne, List.pairwise_map]
  refine List.Pairwise.imp_of_mem ?_ ((List.nodup_range).filter _)
  intro i j hi hj hne e
  obtain ⟨h1, h2⟩ := List.mem_filter.1 hi
  obtain ⟨h3, h4⟩ := List.mem_filter.1 hj
  have n1 : lanN L i ≠ [] := by simpa using h2
  have n2 : lanN L j ≠ [] := by simpa using h4
  have a := idx_eq o.nd (by simpa using h1) (topOf_mem n1)
  have b := idx_eq o.nd (by simpa using h3) (topOf_mem n2)
  rw [e, b] at a
  exact hne a.symm
theorem frees_nil {r : Nat} {L : Lanes} (o : Ok r L) : frees L = [] ↔ L.flatten = [] := by
  constructor
  · intro h
    have hs := (srt_perm (tops L)).length_eq
    rw [← frees_eq, h] at hs
    have ht : tops L = [] := List.length_eq_zero_iff.1 (by simpa using hs.symm)
    unfold tops at ht
    have hf := List.map_eq_nil_iff.1 ht
    rw [List.filter_eq_nil_iff] at hf
    rw [List.flatten_eq_nil_iff]
    intro l hl
    simpa using hf l hl
  · intro h
    cases e : frees L with
    | nil => rfl
    | cons c cs =>
      have : c ∈ frees L := by rw [e]; simp
      have := ((tp_iff o).1 this).1
      rw [h] at this
      simp at this
end CY

namespace CY
open CL
/-! ### the order with a rank, the rank of an order -/
def pick (w : Nat → Nat) : List Nat → Nat → Option (Nat × Nat)
  | [], _ => none
  | c :: cs, d => if d < w c then some (c, d) else pick w cs (d - w c)
theorem pick_some (w : Nat → Nat) : ∀ (cs : List Nat) (d : Nat), d < (cs.map w).sum → cs.Pairwise (· < ·) → ∃ c e, pick w cs d = some (c, e) ∧ c ∈ cs ∧ e < w c ∧ ((cs.filter fun x => decide (x < c)).map w).sum + e = d
  | [], d, h, _ => by simp at h
  | c :: cs, d, h, hs => by
    obtain ⟨h1, h2⟩ := List.pairwise_cons.1 hs
    unfold pick
    by_cases hd : d < w c
    · rw [if_pos hd]
      refine ⟨c, d, rfl, by simp, hd, ?_⟩
      have : (c :: cs).filter (fun x => decide (x < c)) = [] := by
        rw [List.filter_eq_nil_iff]
        intro x hx
        rcases List.mem_cons.1 hx with e | e
        · subst e; simp
        · have := h1 x e; simp; omega
      rw [this]; simp
    · rw [if_neg hd]
      simp only [List.map_cons, List.sum_cons] at h
      obtain ⟨x, e, g1, g2, g3, g4⟩ := pick_some w cs (d - w c) (by omega) h2
      refine ⟨x, e, g1, by simp [g2], g3, ?_⟩
      have hx := h1 x g2
      rw [List.filter_cons, if_pos (by simpa using hx)]
      simp only [List.map_cons, List.sum_cons]
      omega
theorem pick_mem (w : Nat → Nat) : ∀ (cs : List Nat) (d c e : Nat), pick w cs d = some (c, e) → c ∈ cs
  | [], d, c, e, h => by simp [pick] at h
  | x :: cs, d, c, e, h => by
    unfold pick at h
    split at h
    · cases h; simp
    · exact List.mem_cons_of_mem _ (pick_mem w cs _ _ _ h)
theorem pick_mono (w : Nat → Nat) : ∀ (cs : List Nat) (d d' c e c' e' : Nat), cs.Pairwise (· < ·) → d ≤ d' → pick w cs d = some (c, e) → pick w cs d' = some (c', e') → c < c' ∨ (c = c' ∧ e ≤ e')
  | [], d, d', c, e, c', e', _, _, h, _ => by simp [pick] at h
  | x :: cs, d, d', c, e, c', e', hs, hd, h, h' => by
    obtain ⟨h1, h2⟩ := List.pairwise_cons.1 hs
    unfold pick at h h'
    by_cases a : d < w x
    · rw [if_pos a] at h
      cases h
      by_cases b : d' < w x
      · rw [if_pos b] at h'
        cases h'
        exact .inr ⟨rfl, hd⟩
      · rw [if_neg b] at h'
        exact .inl (h1 _ (pick_mem w _ _ _ _ h'))
    · rw [if_neg a] at h
      rw [if_neg (by omega)] at h'
      exact pick_mono w cs _ _ _ _ _ _ h2 (by omega) h h'
def at_ : Nat → Lanes → Nat → List Nat
  | 0, _, _ => []
  | n + 1, L, d => match pick (fun c => cnt (rm L c)) (frees L) d with
    | none => []
    | some (c, e) => c :: at_ n (rm L c) e
def rank_ : Lanes → List Nat → Nat
  | _, [] => 0
  | L, c :: s => (((frees L).filter fun x => decide (x < c)).map fun x => cnt (rm L x)).sum + rank_ (rm L c) s
/-- all go in this order -/
def frB : Lanes → List Nat → Bool
  | _, [] => true
  | L, c :: s => decide (bef L c = []) && frB (rm L c) s
structure At (r n : Nat) (L : Lanes) (d : Nat) (s : List Nat) : Prop where
  pm : s.Perm L.flatten
  fr : frB L s = true
  rk : rank_ L s = d
theorem at_zero {L : Lanes} (h : L.flatten.length = 0) : cnt L = 1 := by
  have h1 := mn_le (lens L)
  rw [lens_sum, h] at h1
  have h2 := cnt_pos L
  unfold cnt at h2 ⊢
  simp [fac] at h1
  omega
theorem at_spec {r : Nat} : ∀ (n : Nat) {L : Lanes} {d : Nat}, Ok r L → L.flatten.length = n → d < cnt L → At r n L d (at_ n L d)
  | 0, L, d, o, hn, hd => by
    have := at_zero hn
    have e : L.flatten = [] := List.length_eq_zero_iff.1 hn
    exact ⟨by rw [e]; exact .refl _, rfl, by simp [at_, rank_]; omega⟩
  | n + 1, L, d, o, hn, hd => by
    have hne : L.flatten ≠ [] := fun e => by rw [e] at hn; simp at hn
    have hs := cnt_rec o hne
    obtain ⟨c, e, g1, g2, g3, g4⟩ := pick_some (fun c => cnt (rm L c)) (frees L) d (by rw [hs]; exact hd) (frees_strict o)
    have t := (tp_iff o).1 g2
    have ht := rm_tot t
    have ih := at_spec n (o.rm t) (d := e) (by omega) g3
    have hb := ((mem_frees' o).1 g2).2
    unfold at_
    rw [g1]
    refine ⟨(List.Perm.cons c ih.pm).trans (rm_perm t), ?_, ?_⟩
    · simp [frB, hb, ih.fr]
    · simp only [rank_]
      rw [ih.rk]
      exact g4
theorem at_mono {r : Nat} : ∀ (n : Nat) {L : Lanes} {d d' : Nat}, Ok r L → L.flatten.length = n → d ≤ d' → d' < cnt L → ¬ at_ n L d' < at_ n L d
  | 0, L, d, d', o, hn, _, hd => by simp [at_]
  | n + 1, L, d, d', o, hn, hdd, hd => by
    have hne : L.flatten ≠ [] := fun e => by rw [e] at hn; simp at hn
    have hs := cnt_rec o hne
    obtain ⟨c, e, g1, g2, g3, g4⟩ := pick_some (fun c => cnt (rm L c)) (frees L) d (by rw [hs]; omega) (frees_strict o)
    obtain ⟨c', e', k1, k2, k3, k4⟩ := pick_some (fun c => cnt (rm L c)) (frees L) d' (by rw [hs]; exact hd) (frees_strict o)
    have t := (tp_iff o).1 g2
    have ht := rm_tot t
    unfold at_
    rw [g1, k1]
    show ¬ (c' :: at_ n (rm L c') e') < (c :: at_ n (rm L c) e)
    rw [List.cons_lt_cons_iff]
    rcases pick_mono _ _ _ _ _ _ _ _ (frees_strict o) hdd g1 k1 with z | ⟨z1, z2⟩
    · rintro (y | ⟨y, _⟩) <;> omega
    · subst z1
      rintro (y | ⟨_, y⟩)
      · omega
      · exact at_mono n (o.rm t) (by omega) z2 k3 y
/-- the car before another one goes ahead of it -/
theorem wait_lt {r : Nat} : ∀ (s : List Nat) {L : Lanes} {c x : Nat}, Ok r L → s.Perm L.flatten → frB L s = true → c ∈ L.flatten → x ∈ bef L c → s.idxOf x < s.idxOf c
  | [], L, c, x, o, pm, _, hc, _ => by
    have := pm.mem_iff.2 hc
    simp at this
  | h :: s, L, c, x, o, pm, fr, hc, hx => by
    simp only [frB, Bool.and_eq_true, decide_eq_true_eq] at fr
    have hh : h ∈ L.flatten := pm.mem_iff.1 (by simp)
    have t := (tp_iff o).1 ((mem_frees' o).2 ⟨hh, fr.1⟩)
    have hne : c ≠ h := fun e => by rw [e, fr.1] at hx; simp at hx
    rw [List.idxOf_cons, List.idxOf_cons, show (h == c) = false from beq_eq_false_iff_ne.2 (Ne.symm hne)]
    by_cases e : h = x
    · simp [e]
    · rw [show (h == x) = false from beq_eq_false_iff_ne.2 e]
      have pm' : s.Perm (rm L h).flatten := (List.perm_cons h).1 (pm.trans (rm_perm t).symm)
      have := wait_lt s (o.rm t) pm' fr.2 ((mem_rm o t).2 ⟨hc, hne⟩) (bef_keep o t hc hne hx (Ne.symm e))
      simp only [cond_false]
      omega
/-- where nothing stands before anything, any order goes -/
theorem fr_all {r : Nat} : ∀ (s : List Nat) {L : Lanes}, Ok r L → s.Perm L.flatten → (∀ c ∈ L.flatten, bef L c = []) → frB L s = true
  | [], L, o, pm, h => rfl
  | c :: s, L, o, pm, h => by
    have hc : c ∈ L.flatten := pm.mem_iff.1 (by simp)
    have t := (tp_iff o).1 ((mem_frees' o).2 ⟨hc, h c hc⟩)
    have pm' : s.Perm (rm L c).flatten := (List.perm_cons c).1 (pm.trans (rm_perm t).symm)
    simp only [frB, h c hc, decide_true, Bool.true_and]
    refine fr_all s (o.rm t) pm' fun x hx => ?_
    obtain ⟨h1, h2⟩ := (mem_rm o t).1 hx
    have e := bef_rm o t h1 h2
    rw [h x h1] at e
    split at e
    · cases e
    · exact e.symm
/-! ### lanes in another order -/
theorem Ok.rev {r : Nat} {L : Lanes} (o : Ok r L) : Ok r L.reverse := by
  have pm : L.reverse.flatten.Perm L.flatten := (List.reverse_perm L).flatten
  exact ⟨o.r1, o.r4, by simpa using o.n1, by simpa using o.n4, fun l hl => o.len l (by simpa using hl), fun l hl => o.let_ l (by simpa using hl), pm.nodup_iff.2 o.nd⟩
theorem lanN_rev {L : Lanes} {k : Nat} (h : k < L.length) : lanN L.reverse k = lanN L (L.length - 1 - k) := by
  unfold lanN
  rw [List.getD_eq_getElem?_getD, List.getD_eq_getElem?_getD, List.getElem?_reverse h]
theorem flat_rev (L : Lanes) : L.reverse.flatten.Perm L.flatten := (List.reverse_perm L).flatten
theorem idx_rev {r : Nat} {L : Lanes} (o : Ok r L) {c : Nat} (hc : c ∈ L.flatten) : idx L.reverse c = L.length - 1 - idx L c := by
  have h := idx_lt hc
  refine idx_eq o.rev.nd (by simp; omega) ?_
  rw [lanN_rev (by omega), show L.length - 1 - (L.length - 1 - idx L c) = idx L c from by omega]
  exact mem_lane hc
theorem lane_rev {r : Nat} {L : Lanes} (o : Ok r L) {c : Nat} (hc : c ∈ L.flatten) : lane L.reverse c = lane L c := by
  have h := idx_lt hc
  rw [lane_eq, idx_rev o hc, lanN_rev (by omega), show L.length - 1 - (L.length - 1 - idx L c) = idx L c from by omega, ← lane_eq]
theorem bef_rev {r : Nat} {L : Lanes} (o : Ok r L) {c : Nat} (hc : c ∈ L.flatten) : bef L.reverse c = bef L c := by
  unfold bef
  rw [lane_rev o hc]
theorem frees_rev (L : Lanes) : frees L.reverse = frees L := by
  unfold frees
  rw [List.filter_reverse, List.map_reverse]
  exact srt_congr (List.reverse_perm _)
theorem rm_rev {r : Nat} {L : Lanes} (o : Ok r L) {c : Nat} (hc : c ∈ L.flatten) : rm L.reverse c = (rm L c).reverse := by
  have h := idx_lt hc
  unfold rm
  rw [lane_rev o hc, idx_rev o hc]
  apply List.ext_getElem?
  intro i
  by_cases hi : i < L.length
  · rw [List.getElem?_reverse (by simpa using hi), List.length_set]
    by_cases e : i = L.length - 1 - idx L c
    · rw [e, List.getElem?_set_self (by simp; omega), show L.length - 1 - (L.length - 1 - idx L c) = idx L c from by omega, List.getElem?_set_self h]
    · rw [List.getElem?_set_ne (by omega), List.getElem?_set_ne (by omega), List.getElem?_reverse hi]
  · rw [List.getElem?_eq_none (by simpa using hi), List.getElem?_eq_none (by simpa using hi)]
theorem cnt_rev (L : Lanes) : cnt L.reverse = cnt L := mn_perm ((List.reverse_perm L).map _)
theorem pick_congr {w w' : Nat → Nat} : ∀ (cs : List Nat) (d : Nat), (∀ c ∈ cs, w c = w' c) → pick w cs d = pick w' cs d
  | [], _, _ => rfl
  | c :: cs, d, h => by
    unfold pick
    rw [h c (by simp), pick_congr cs _ fun x hx => h x (by simp [hx])]
theorem at_rev {r : Nat} : ∀ (n : Nat) {L : Lanes} {d : Nat}, Ok r L → at_ n L.reverse d = at_ n L d
  | 0, _, _, _ => rfl
  | n + 1, L, d, o => by
    unfold at_
    have e : pick (fun c => cnt (rm L.reverse c)) (frees L.reverse) d = pick (fun c => cnt (rm L c)) (frees L) d := by
      rw [frees_rev]
      refine pick_congr _ _ fun c hc => ?_
      have t := (tp_iff o).1 hc
      rw [rm_rev o t.1, cnt_rev]
    rw [e]
    cases hp : pick (fun c => cnt (rm L c)) (frees L) d with
    | none => rfl
    | some p =>
      obtain ⟨c, e⟩ := p
      have t := (tp_iff o).1 (pick_mem _ _ _ _ _ hp)
      show c :: at_ n (rm L.reverse c) e = c :: at_ n (rm L c) e
      rw [rm_rev o t.1, at_rev n (o.rm t)]
end CY
namespace CY
open CL
theorem chs_up (m p : Nat) : ∀ k : Nat, chs (m + p) p ≤ chs (m + (p + k)) (p + k)
  | 0 => Nat.le_refl _
  | k + 1 => Nat.le_trans (chs_up m p k) (by
      show _ ≤ chs (m + (p + k) + 1) (p + k + 1)
      rw [chs]
      omega)
theorem mn_posG (ls : List Nat) (m : Nat) : 0 < mn m ls := by
  rcases Nat.eq_zero_or_pos (mn m ls) with h | h
  · have := mn_fac ls m
    rw [h, Nat.zero_mul, Nat.zero_mul] at this
    have := fac_pos (m + ls.sum)
    omega
  · exact h
theorem plains_sig : ∀ l : List Nat, D.plains (l.map fun c => D.str [c]) = true
  | [] => rfl
  | x :: l => by rw [List.map_cons]; simp only [D.plains, plains_sig l, D.plain, Bool.and_true]
theorem neSigs (l : List Nat) : D.ne (.lst (l.map fun c => D.str [c])) (.lst []) = .ok (.bl !l.isEmpty) := by
  have hp : D.plain (.lst (l.map fun c => D.str [c])) = true := plains_sig l
  unfold D.ne
  have hd : min (D.dep (.lst (l.map fun c => D.str [c]))) (D.dep (.lst [])) ≤ 60 := by
    have : D.dep (.lst []) ≤ 60 := by decide
    omega
  rw [hp, show D.plain (.lst []) = true from rfl, decide_eq_true hd]
  simp only [Bool.and_self, if_true]
  congr 2
  cases l with
  | nil => rfl
  | cons x l => simp [D.eqv, D.eqvs]
theorem ltSig (x c : Nat) : D.lt (.str [x]) (.str [c]) = .ok (.bl (decide (x < c))) := by
  show R.ok (D.bl (decide ([x] < [c]))) = _
  congr 2
  simp [List.cons_lt_cons_iff]
theorem sum_cast {α : Type} (f : α → Nat) : ∀ l : List α, (l.map fun x => ((f x : Nat) : Int)).sum = ((l.map f).sum : Nat)
  | [] => rfl
  | x :: l => by
    simp only [List.map_cons, List.sum_cons, sum_cast f l]
    omega
/-- the pairs that must wait -/
def prw (L : Lanes) : List (List Nat) := (srt L.flatten).flatMap fun c => (bef L c).map fun x => [x, c]
theorem prw_len {r : Nat} {L : Lanes} (o : Ok r L) : (prw L).length < 64 := by
  unfold prw
  have h8 := o.le8
  have hp := (srt_perm L.flatten).length_eq
  have hmem : ∀ c ∈ srt L.flatten, c ∈ L.flatten := fun c hc => mem_srt.1 hc
  have key : ∀ cs : List Nat, (∀ c ∈ cs, c ∈ L.flatten) → (cs.flatMap fun c => (bef L c).map fun x => [x, c]).length ≤ 3 * cs.length := by
    intro cs
    induction cs with
    | nil => simp
    | cons c cs ih =>
      intro h
      have := ih fun z hz => h z (by simp [hz])
      have := bef_le o (h c (by simp))
      simp only [List.flatMap_cons, List.length_append, List.length_map, List.length_cons]
      omega
  have := key _ hmem
  omega
end CY

namespace CY
open CL
/-! ### how many must wait -/
def sq : List Nat → Nat
  | [] => 0
  | l :: ls => l * l + sq ls
theorem sq_le : ∀ ls : List Nat, sq ls ≤ ls.sum * ls.sum
  | [] => Nat.le_refl _
  | l :: ls => by
    have := sq_le ls
    simp only [sq, List.sum_cons]
    rw [Nat.add_mul, Nat.mul_add, Nat.mul_add]
    omega
theorem sq_filter : ∀ ls : List Nat, sq (ls.filter fun x => x != 0) = sq ls
  | [] => rfl
  | l :: ls => by
    rw [List.filter_cons]
    by_cases h : l = 0
    · subst h; simp [sq, sq_filter ls]
    · simp [sq, sq_filter ls, h]
theorem sum_nz : ∀ ls : List Nat, (ls.filter fun x => x != 0).sum = ls.sum
  | [] => rfl
  | l :: ls => by
    rw [List.filter_cons]
    by_cases h : l = 0
    · subst h; simp [sum_nz ls]
    · simp [sum_nz ls, h]
theorem pf_nz : ∀ ls : List Nat, pf (ls.filter fun x => x != 0) = pf ls
  | [] => rfl
  | l :: ls => by
    rw [List.filter_cons]
    by_cases h : l = 0
    · subst h; simp [pf, pf_nz ls, fac]
    · simp [pf, pf_nz ls, h]
theorem one_of {ls : List Nat} (h : (ls.filter fun x => x != 0).length ≤ 1) : mn 0 ls = 1 ∧ sq ls = ls.sum * ls.sum := by
  have h0 := mn0 ls
  rw [← pf_nz, ← sum_nz] at h0
  rw [← sq_filter, ← sum_nz]
  cases e : ls.filter fun x => x != 0 with
  | nil =>
    rw [e] at h0
    simp [pf, fac] at h0
    simp [sq, h0]
  | cons a t =>
    rw [e] at h h0
    have ht : t = [] := List.length_eq_zero_iff.1 (by simpa using h)
    subst ht
    simp only [pf, Nat.mul_one, List.sum_cons, List.sum_nil, Nat.add_zero] at h0
    refine ⟨?_, by simp [sq]⟩
    exact Nat.eq_of_mul_eq_mul_right (fac_pos a) (by rw [h0, Nat.one_mul])
theorem two_of {ls : List Nat} (h : 2 ≤ (ls.filter fun x => x != 0).length) : sq ls < ls.sum * ls.sum := by
  rw [← sq_filter, ← sum_nz]
  have hnz : ∀ x ∈ ls.filter (fun x => x != 0), x ≠ 0 := fun x hx => by simpa using (List.mem_filter.1 hx).2
  revert hnz h
  generalize ls.filter (fun x => x != 0) = fs
  intro h hnz
  match fs, h, hnz with
  | a :: b :: t, _, hnz =>
    have ha := hnz a (by simp)
    have hb := hnz b (by simp)
    have := sq_le (b :: t)
    have e : sq (a :: b :: t) = a * a + sq (b :: t) := rfl
    have e2 : (a :: b :: t).sum = a + (b :: t).sum := rfl
    have hs : 0 < (b :: t).sum := by simp only [List.sum_cons]; omega
    have hm : 0 < a * (b :: t).sum := Nat.mul_pos (by omega) hs
    rw [e, e2, Nat.add_mul, Nat.mul_add, Nat.mul_add]
    omega
theorem sum_ge {α : Type} (f : α → Nat) : ∀ l : List α, (∀ x ∈ l, 1 ≤ f x) → l.length ≤ (l.map f).sum
  | [], _ => by simp
  | x :: l, h => by
    have := sum_ge f l fun y hy => h y (by simp [hy])
    have := h x (by simp)
    simp only [List.length_cons, List.map_cons, List.sum_cons]
    omega
theorem nz_len (L : Lanes) : ((lens L).filter fun x => x != 0).length = (tops L).length := by
  unfold lens tops
  rw [List.filter_map, List.length_map, List.length_map]
  congr 1
  apply List.filter_congr
  intro l _
  cases l <;> simp
theorem cnt_one {r : Nat} {L : Lanes} (o : Ok r L) : cnt L = 1 ↔ sq (lens L) = L.flatten.length * L.flatten.length := by
  rw [← lens_sum]
  rcases Nat.lt_or_ge ((lens L).filter fun x => x != 0).length 2 with h | h
  · have := one_of (ls := lens L) (by omega)
    exact ⟨fun _ => this.2, fun _ => this.1⟩
  · have h2 := two_of h
    constructor
    · intro e
      exfalso
      rw [nz_len] at h
      have hf : (frees L).length = (tops L).length := (srt_perm (tops L)).length_eq
      have hne : L.flatten ≠ [] := fun z => by
        have := (frees_nil o).2 z
        rw [this] at hf; simp at hf; omega
      have hr := cnt_rec o hne
      have := sum_ge (fun c => cnt (rm L c)) (frees L) fun c _ => cnt_pos _
      omega
    · intro e; omega
theorem map_idx : ∀ (p l : List Nat), (p ++ l).Nodup → (l.map fun c => (p ++ l).idxOf c) = List.range' p.length l.length
  | p, [], _ => rfl
  | p, c :: l, nd => by
    have hp : c ∉ p := fun h => (List.nodup_append.1 nd).2.2 c h c (by simp) rfl
    have e : p ++ c :: l = (p ++ [c]) ++ l := by simp
    have ih := map_idx (p ++ [c]) l (by rw [← e]; exact nd)
    rw [List.length_append, List.length_singleton] at ih
    rw [List.map_cons, List.length_cons, List.range'_succ]
    congr 1
    · rw [List.idxOf_append, if_neg hp]; simp
    · rw [e]; exact ih
theorem tri : ∀ n : Nat, 2 * ((List.range n).map fun i => n - (i + 1)).sum + n = n * n := by
  intro n
  have key : ∀ m : Nat, m ≤ n → 2 * ((List.range m).map fun i => n - (i + 1)).sum + m + m * m = 2 * (m * n) := by
    intro m
    induction m with
    | zero => intro _; simp
    | succ m ih =>
      intro h
      have := ih (by omega)
      rw [List.range_succ, List.map_append, List.sum_append]
      simp only [List.map_cons, List.map_nil, List.sum_cons, List.sum_nil, Nat.add_zero]
      have e1 : (m + 1) * (m + 1) = m * m + m + m + 1 := by rw [Nat.add_mul, Nat.mul_add]; omega
      have e2 : (m + 1) * n = m * n + n := by rw [Nat.add_mul, Nat.one_mul]
      omega
  have := key n (Nat.le_refl _)
  omega
theorem lane_sum {r : Nat} {L : Lanes} (o : Ok r L) {l : List Nat} (hl : l ∈ L) : 2 * (l.map fun c => (bef L c).length).sum + l.length = l.length * l.length := by
  obtain ⟨k, hk, rfl⟩ := lanN_mem.1 hl
  have nd := lane_nd o.nd hk
  have e : (lanN L k).map (fun c => (bef L c).length) = ((lanN L k).map fun c => (lanN L k).idxOf c).map fun i => (lanN L k).length - (i + 1) := by
    rw [List.map_map]
    apply List.map_congr_left
    intro c hc
    have := idx_eq o.nd hk hc
    show (bef L c).length = _
    rw [bef_len, pos, lane_eq, this]
    rfl
  have h := map_idx [] (lanN L k) (by simpa using nd)
  simp only [List.nil_append, List.length_nil] at h
  rw [e, h, ← List.range_eq_range']
  exact tri _
theorem flat_sum (f : Nat → Nat) : ∀ L : Lanes, (L.flatten.map f).sum = (L.map fun l => (l.map f).sum).sum
  | [] => rfl
  | l :: L => by
    rw [List.flatten_cons, List.map_append, List.sum_append, flat_sum f L]
    rfl
theorem prw_count {r : Nat} {L : Lanes} (o : Ok r L) : 2 * (prw L).length + L.flatten.length = sq (lens L) := by
  have e1 : (prw L).length = ((srt L.flatten).map fun c => (bef L c).length).sum := by
    unfold prw
    rw [List.length_flatMap]
    congr 1
    apply List.map_congr_left
    intro c _
    simp
  rw [e1, sum_perm ((srt_perm L.flatten).map _), flat_sum, List.length_flatten]
  have key : ∀ ls : Lanes, (∀ l ∈ ls, l ∈ L) → 2 * (ls.map fun l => (l.map fun c => (bef L c).length).sum).sum + (ls.map List.length).sum = sq (lens ls) := by
    intro ls
    induction ls with
    | nil => intro _; rfl
    | cons l ls ih =>
      intro h
      have a := ih fun z hz => h z (by simp [hz])
      have b := lane_sum o (h l (by simp))
      simp only [List.map_cons, List.sum_cons, lens, sq] at a ⊢
      omega
  exact key L fun _ h => h
/-! ### which must wait for one -/
theorem flat_filter (g : Nat → List Nat) (c : Nat) : ∀ cs : List Nat, cs.Nodup → c ∈ cs → (((cs.flatMap fun c' => (g c').map fun x => [x, c']).filter fun p => p[1]?.getD 0 == c).map fun p => p[0]?.getD 0) = g c
  | [], _, h => by simp at h
  | z :: cs, nd, h => by
    obtain ⟨h1, h2⟩ := List.nodup_cons.1 nd
    have none_ : ∀ cs : List Nat, c ∉ cs → (cs.flatMap fun c' => (g c').map fun x => [x, c']).filter (fun p => p[1]?.getD 0 == c) = [] := by
      intro cs hc
      rw [List.filter_eq_nil_iff]
      intro p hp
      obtain ⟨c', hc', hp⟩ := List.mem_flatMap.1 hp
      obtain ⟨x, _, rfl⟩ := List.mem_map.1 hp
      have : c' ≠ c := fun e => hc (e ▸ hc')
      simpa using this
    rw [List.flatMap_cons, List.filter_append, List.map_append, List.filter_map, List.map_map]
    by_cases e : z = c
    · subst e
      rw [none_ cs h1]
      have : (g z).filter ((fun p => p[1]?.getD 0 == z) ∘ fun x => [x, z]) = g z := List.filter_eq_self.2 fun x _ => by simp
      rw [this]
      simp only [List.map_nil, List.append_nil]
      conv => rhs; rw [← List.map_id (g z)]
      apply List.map_congr_left
      intro x _
      rfl
    · have : (g z).filter ((fun p => p[1]?.getD 0 == c) ∘ fun x => [x, z]) = [] := by
        rw [List.filter_eq_nil_iff]
        intro x _
        simpa using e
      rw [this, List.map_nil, List.nil_append]
      rcases List.mem_cons.1 h with q | q
      · exact absurd q.symm e
      · exact flat_filter g c cs h2 q
theorem prw_form {L : Lanes} {p : List Nat} (h : p ∈ prw L) : ∃ x c, p = [x, c] ∧ c ∈ L.flatten ∧ x ∈ bef L c := by
  unfold prw at h
  obtain ⟨c, hc, hp⟩ := List.mem_flatMap.1 h
  obtain ⟨x, hx, rfl⟩ := List.mem_map.1 hp
  exact ⟨x, c, rfl, mem_srt.1 hc, hx⟩
theorem prw_mem {L : Lanes} {x c : Nat} (hc : c ∈ L.flatten) (hx : x ∈ bef L c) : [x, c] ∈ prw L :=
  List.mem_flatMap.2 ⟨c, mem_srt.2 hc, List.mem_map.2 ⟨x, hx, rfl⟩⟩
theorem leL_fst {x y c : Nat} (h : leL [x, c] [y, c] = true) : x ≤ y := by
  simp only [leL, PySem.Spec.ltCps] at h
  simp at h
  omega
theorem wait_for {r : Nat} {L : Lanes} (o : Ok r L) {c : Nat} (hc : c ∈ L.flatten) : (((isort (prw L)).filter fun p => p[1]?.getD 0 == c).map fun p => p[0]?.getD 0) = srt (bef L c) := by
  have nd : (srt L.flatten).Nodup := (srt_perm L.flatten).nodup_iff.2 o.nd
  have e := flat_filter (bef L) c (srt L.flatten) nd (mem_srt.2 hc)
  have pm : (((isort (prw L)).filter fun p => p[1]?.getD 0 == c).map fun p => p[0]?.getD 0).Perm (bef L c) := by
    have := ((isort_perm (prw L)).filter fun p => p[1]?.getD 0 == c).map fun p => p[0]?.getD 0
    refine this.trans ?_
    unfold prw
    rw [e]
  refine List.Perm.eq_of_pairwise (fun x y _ _ h1 h2 => Nat.le_antisymm h1 h2) ?_ (srt_sorted _) (pm.trans (srt_perm _).symm)
  rw [List.pairwise_map]
  refine List.Pairwise.imp_of_mem ?_ ((isort_sorted (prw L)).filter _)
  intro p q hp hq hle
  obtain ⟨hp1, hp2⟩ := List.mem_filter.1 hp
  obtain ⟨hq1, hq2⟩ := List.mem_filter.1 hq
  obtain ⟨x, c1, rfl, _, _⟩ := prw_form ((isort_perm _).mem_iff.1 hp1)
  obtain ⟨y, c2, rfl, _, _⟩ := prw_form ((isort_perm _).mem_iff.1 hq1)
  have e1 : c1 = c := by simpa using hp2
  have e2 : c2 = c := by simpa using hq2
  subst e1; subst e2
  exact leL_fst hle
theorem prw_rev {r : Nat} {L : Lanes} (o : Ok r L) : prw L.reverse = prw L := by
  unfold prw
  rw [srt_congr (flat_rev L)]
  have key : ∀ cs : List Nat, (∀ c ∈ cs, c ∈ L.flatten) → (cs.flatMap fun c => (bef L.reverse c).map fun x => [x, c]) = cs.flatMap fun c => (bef L c).map fun x => [x, c] := by
    intro cs
    induction cs with
    | nil => intro _; rfl
    | cons c cs ih =>
      intro h
      rw [List.flatMap_cons, List.flatMap_cons, ih fun z hz => h z (by simp [hz]), bef_rev o (h c (by simp))]
  exact key _ fun c hc => mem_srt.1 hc
theorem idx_revl {s : List Nat} (nd : s.Nodup) {x : Nat} (h : x ∈ s) : s.reverse.idxOf x = s.length - 1 - s.idxOf x := by
  have hi := List.idxOf_lt_length_of_mem h
  have hx : s[s.idxOf x] = x := List.getElem_idxOf hi
  have nd' : s.reverse.Nodup := (List.reverse_perm s).nodup_iff.2 nd
  have hj : s.length - 1 - s.idxOf x < s.reverse.length := by simp; omega
  have e : s.reverse[s.length - 1 - s.idxOf x] = x := by
    rw [List.getElem_reverse]
    have : s.length - 1 - (s.length - 1 - s.idxOf x) = s.idxOf x := by omega
    simp only [this, hx]
  have := List.Nodup.idxOf_getElem nd' _ hj
  rw [e] at this
  exact this
theorem fr_rev {r : Nat} {L : Lanes} (o : Ok r L) {s : List Nat} (pm : s.Perm L.flatten) (fr : frB L s = true) : frB L s.reverse = (prw L).isEmpty := by
  have nd : s.Nodup := pm.nodup_iff.2 o.nd
  have pm' : s.reverse.Perm L.flatten := (List.reverse_perm s).trans pm
  cases e : prw L with
  | nil =>
    refine fr_all _ o pm' fun c hc => ?_
    cases hb : bef L c with
    | nil => rfl
    | cons x t =>
      have := prw_mem hc (show x ∈ bef L c by rw [hb]; simp)
      rw [e] at this; simp at this
  | cons p t =>
    obtain ⟨x, c, rfl, hc, hx⟩ := prw_form (show p ∈ prw L by rw [e]; simp)
    cases h : frB L s.reverse with
    | false => rfl
    | true =>
      exfalso
      have h1 := wait_lt s o pm fr hc hx
      have h2 := wait_lt s.reverse o pm' h hc hx
      have hxm := pm.mem_iff.2 (bef_mem hc hx)
      have hcm := pm.mem_iff.2 hc
      rw [idx_revl nd hxm, idx_revl nd hcm] at h2
      have := List.idxOf_lt_length_of_mem hcm
      omega
end CY

namespace CY
open CL
/-! ### paths, in order -/
abbrev Path := List (Nat × Nat)
def mLt (a b : Nat × Nat) : Bool := decide (a.1 < b.1) || (decide (a.1 = b.1) && decide (a.2 < b.2))
def pLt : Path → Path → Bool
  | [], [] => false
  | [], _ :: _ => true
  | _ :: _, [] => false
  | a :: p, b :: q => if a = b then pLt p q else mLt a b
theorem mLt_irrefl (a : Nat × Nat) : mLt a a = false := by simp [mLt]
theorem mLt_asymm {a b : Nat × Nat} (h : mLt a b = true) : mLt b a = false := by
  simp only [mLt, Bool.or_eq_true, Bool.and_eq_true, decide_eq_true_eq] at h
  simp only [mLt, Bool.or_eq_false_iff, Bool.and_eq_false_imp, decide_eq_true_eq, decide_eq_false_iff_not]
  omega
theorem mLt_ne {a b : Nat × Nat} (h : mLt a b = true) : a ≠ b := fun e => by rw [e, mLt_irrefl] at h; cases h
theorem pLt_irrefl : ∀ p : Path, pLt p p = false
  | [] => rfl
  | a :: p => by simp [pLt, pLt_irrefl p]
theorem pLt_asymm : ∀ {p q : Path}, pLt p q = true → pLt q p = false
  | [], [], h => by simp [pLt] at h
  | [], _ :: _, _ => rfl
  | _ :: _, [], h => by simp [pLt] at h
  | a :: p, b :: q, h => by
    unfold pLt at h ⊢
    by_cases e : a = b
    · rw [if_pos e] at h
      rw [if_pos e.symm]
      exact pLt_asymm h
    · rw [if_neg e] at h
      rw [if_neg (Ne.symm e)]
      exact mLt_asymm h
theorem pLt_snoc : ∀ (p : Path) {m m' : Nat × Nat}, mLt m m' = true → pLt (p ++ [m]) (p ++ [m']) = true
  | [], m, m', h => by simp [pLt, mLt_ne h, h]
  | a :: p, m, m', h => by
    show pLt (a :: (p ++ [m])) (a :: (p ++ [m'])) = true
    unfold pLt
    rw [if_pos rfl]
    exact pLt_snoc p h
theorem pLt_app : ∀ {p q : Path} (m m' : Nat × Nat), p.length = q.length → pLt p q = true → pLt (p ++ [m]) (q ++ [m']) = true
  | [], [], _, _, _, h => by simp [pLt] at h
  | [], _ :: _, _, _, hl, _ => by simp at hl
  | _ :: _, [], _, _, hl, _ => by simp at hl
  | a :: p, b :: q, m, m', hl, h => by
    show pLt (a :: (p ++ [m])) (b :: (q ++ [m'])) = true
    unfold pLt at h ⊢
    by_cases e : a = b
    · rw [if_pos e] at h ⊢
      exact pLt_app m m' (by simpa using hl) h
    · rw [if_neg e] at h ⊢
      exact h
theorem prs_sorted {n : Nat} (h : n ≤ 4) : (prs n).Pairwise (fun a b => mLt a b = true) := by
  have : n = 0 ∨ n = 1 ∨ n = 2 ∨ n = 3 ∨ n = 4 := by omega
  rcases this with e | e | e | e | e <;> subst e <;> decide
theorem mvs_sorted {r : Nat} {L : Lanes} (h : L.length ≤ 4) : (mvs r L).Pairwise (fun a b => mLt a b = true) := (prs_sorted h).filter _
/-! ### a row of finds: each thing once -/
def addF {α : Type} [DecidableEq α] {β : Type} (s : List α × List (α × β)) (c : α × β) : List α × List (α × β) := if c.1 ∈ s.1 then s else (s.1 ++ [c.1], s.2 ++ [c])
section
variable {α : Type} [DecidableEq α] {β : Type}
theorem add_known : ∀ (C : List (α × β)) (k : List α) (l : List (α × β)), ∃ e, (C.foldl addF (k, l)).2 = l ++ e ∧ (C.foldl addF (k, l)).1 = k ++ e.map (·.1) ∧ e.Sublist C ∧ (∀ c ∈ e, c.1 ∉ k) ∧ (e.map (·.1)).Nodup
  | [], k, l => ⟨[], by simp, by simp, List.Sublist.refl _, by simp, by simp⟩
  | c :: C, k, l => by
    simp only [List.foldl_cons]
    by_cases h : c.1 ∈ k
    · have e0 : addF (k, l) c = (k, l) := by simp [addF, h]
      rw [e0]
      obtain ⟨e, h1, h2, h3, h4, h5⟩ := add_known C k l
      exact ⟨e, h1, h2, h3.trans (List.sublist_cons_self _ _), h4, h5⟩
    · have e0 : addF (k, l) c = (k ++ [c.1], l ++ [c]) := by simp [addF, h]
      rw [e0]
      obtain ⟨e, h1, h2, h3, h4, h5⟩ := add_known C (k ++ [c.1]) (l ++ [c])
      refine ⟨c :: e, by rw [h1]; simp, by rw [h2]; simp, List.Sublist.cons₂ _ h3, fun z hz => ?_, ?_⟩
      · rcases List.mem_cons.1 hz with q | q
        · subst q; exact h
        · exact fun y => h4 z q (by simp [y])
      · rw [List.map_cons, List.nodup_cons]
        refine ⟨fun y => ?_, h5⟩
        obtain ⟨z, hz, ez⟩ := List.mem_map.1 y
        exact h4 z hz (by simp [ez])
theorem add_first {k : List α} {l : List (α × β)} {A B : List (α × β)} {c : α × β} (hk : c.1 ∉ k) (hA : ∀ a ∈ A, a.1 ≠ c.1) : c ∈ ((A ++ c :: B).foldl addF (k, l)).2 := by
  rw [List.foldl_append, List.foldl_cons]
  obtain ⟨e, h1, h2, h3, _, _⟩ := add_known A k l
  have hn : c.1 ∉ (A.foldl addF (k, l)).1 := by
    rw [h2]
    intro y
    rcases List.mem_append.1 y with y | y
    · exact hk y
    · obtain ⟨z, hz, ez⟩ := List.mem_map.1 y
      exact hA z (h3.subset hz) ez
  have e0 : addF (A.foldl addF (k, l)) c = ((A.foldl addF (k, l)).1 ++ [c.1], (A.foldl addF (k, l)).2 ++ [c]) := by
    exact if_neg hn
  rw [e0]
  obtain ⟨e', h1', _⟩ := add_known B ((A.foldl addF (k, l)).1 ++ [c.1]) ((A.foldl addF (k, l)).2 ++ [c])
  rw [h1']
  simp
end
/-! ### the moves that free a car -/
theorem bef_step {r : Nat} {L : Lanes} (o : Ok r L) {m : Nat × Nat} (h : Mv r L m) {c : Nat} (hc : c ∈ L.flatten) : (bef L c).length ≤ (bef (dm L m) c).length + 1 ∧ ((bef L c).length = (bef (dm L m) c).length + 1 → m.1 = idx L c) := by
  have hc' := (dm_perm h).mem_iff.2 hc
  have hp := pos_lt hc
  have hb := bef_len (L := L) (c := c)
  by_cases e : c = topOf (lanN L m.1)
  · have hin : c ∈ lanN L m.1 := by rw [e]; conv => lhs; rw [← top_split h.full]
                                    simp
    have i1 := idx_eq o.nd h.h1 hin
    refine ⟨?_, fun _ => i1.symm⟩
    have n1 := lane_nd o.nd h.h1
    have hs := top_split h.full
    rw [← hs] at n1
    have z := idxOf_last n1
    rw [hs, ← e] at z
    have hl := congrArg List.length hs
    simp at hl
    have : (bef L c).length = 0 := by
      rw [hb]
      unfold pos
      rw [lane_eq, i1, z]
      simp; omega
    omega
  · obtain ⟨e1, e2⟩ := place_dm o h hc e
    have hb' := bef_len (L := dm L m) (c := c)
    rw [e2] at hb'
    have hl' : lane (dm L m) c = lanN (dm L m) (idx L c) := by rw [lane_eq, e1]
    rw [hl', lanN_dm h] at hb'
    have hle : (lane L c).length = (lanN L (idx L c)).length := rfl
    by_cases k1 : idx L c = m.1
    · rw [if_pos k1] at hb'
      refine ⟨?_, fun _ => k1.symm⟩
      rw [hb, hb', hle, k1]
      simp
      omega
    · rw [if_neg k1] at hb'
      by_cases k2 : idx L c = m.2
      · rw [if_pos k2] at hb'
        have hle2 : (lane L c).length = (lanN L m.2).length := by rw [hle, k2]
        simp only [List.length_append, List.length_cons, List.length_nil] at hb'
        exact ⟨by omega, fun y => by omega⟩
      · rw [if_neg k2] at hb'
        exact ⟨by omega, fun y => by omega⟩
theorem bef_path {r : Nat} {c : Nat} : ∀ {q : Path} {L L' : Lanes}, Ok r L → c ∈ L.flatten → Good r L q L' → (bef L c).length ≤ (bef L' c).length + q.length
  | [], L, L', o, hc, g => by
    have g : L = L' := g
    subst g; simp
  | m :: q, L, L', o, hc, g => by
    obtain ⟨h, g⟩ := g
    have h1 := (bef_step o h hc).1
    have h2 := bef_path (o.dm h) ((dm_perm h).mem_iff.2 hc) g
    simp only [List.length_cons]
    omega
theorem few_path {r : Nat} {c : Nat} : ∀ {q : Path} {L L' : Lanes}, Ok r L → c ∈ L.flatten → Good r L q L' → (few r L' c).isSome = (few r L c).isSome
  | [], L, L', o, hc, g => by
    have g : L = L' := g
    subst g; rfl
  | m :: q, L, L', o, hc, g => by
    obtain ⟨h, g⟩ := g
    rw [few_path (o.dm h) ((dm_perm h).mem_iff.2 hc) g, few_dm o h hc]
theorem Good.snoc {r : Nat} : ∀ {q : Path} {L L' : Lanes} {m : Nat × Nat}, Good r L q L' → Mv r L' m → Good r L (q ++ [m]) (dm L' m)
  | [], L, L', m, g, h => by
    have g : L = L' := g
    subst g
    exact ⟨h, rfl⟩
  | a :: q, L, L', m, g, h => ⟨g.1, Good.snoc g.2 h⟩
/-- the first moves out of lane k -/
def gp (r k : Nat) : Nat → Lanes → Path × Lanes
  | 0, L => ([], L)
  | j + 1, L => match (nearL r L k).head? with
    | some m => (m :: (gp r k j (dm L m)).1, (gp r k j (dm L m)).2)
    | none => ([], L)
structure Gp (r c : Nat) (L : Lanes) (j : Nat) (p : Path) (S : Lanes) : Prop where
  good : Good r L p S
  len : p.length = j
  bef : (bef S c).length + j = (bef L c).length
  idx : idx S c = idx L c
  pos : pos S c = pos L c
  least : ∀ q L', Good r L q L' → q.length = j → (CY.bef L' c).length + j = (CY.bef L c).length → q = p ∨ pLt p q = true
theorem gp_spec {r c : Nat} : ∀ (j : Nat) {L : Lanes}, Ok r L → c ∈ L.flatten → L.flatten.length + r ≤ r * L.length + pos L c + 1 → j ≤ (bef L c).length → Gp r c L j (gp r (idx L c) j L).1 (gp r (idx L c) j L).2
  | 0, L, o, hc, fr, hj => ⟨rfl, rfl, rfl, rfl, rfl, fun q L' g hq _ => .inl (List.length_eq_zero_iff.1 hq)⟩
  | j + 1, L, o, hc, fr, hj => by
    have hb' : bef L c ≠ [] := fun e => by rw [e] at hj; simp at hj
    have hne := near_ne o hc fr hb'
    obtain ⟨m, t, hnear⟩ := List.exists_cons_of_ne_nil hne
    obtain ⟨hm, hmk⟩ := near_mv (show m ∈ nearL r L (idx L c) by rw [hnear]; simp)
    obtain ⟨i1, p1, b1⟩ := turn_out o hc hb' hm hmk
    have o' := o.dm hm
    have hc' := (dm_perm hm).mem_iff.2 hc
    have hl := (dm_perm hm).length_eq
    have ih := gp_spec j o' hc' (by rw [hl, dm_len, p1]; exact fr) (by omega)
    rw [i1] at ih
    have eg : gp r (idx L c) (j + 1) L = (m :: (gp r (idx L c) j (dm L m)).1, (gp r (idx L c) j (dm L m)).2) := by
      show (match (nearL r L (idx L c)).head? with | some m => (m :: (gp r (idx L c) j (dm L m)).1, (gp r (idx L c) j (dm L m)).2) | none => ([], L)) = _
      rw [hnear]; rfl
    rw [eg]
    refine ⟨⟨hm, ih.good⟩, by simp [ih.len], (by have := ih.bef; show (CY.bef (gp r (CY.idx L c) j (dm L m)).2 c).length + (j + 1) = _; omega), by rw [ih.idx, i1], by rw [ih.pos, p1], fun q L' g hq hb => ?_⟩
    cases q with
    | nil => simp at hq
    | cons m' q =>
      obtain ⟨hm', g'⟩ := g
      have hl' : q.length = j := by simpa using hq
      have s1 := bef_path (o.dm hm') ((dm_perm hm').mem_iff.2 hc) g'
      have s2 := bef_step o hm' hc
      have e1 : m'.1 = idx L c := s2.2 (by omega)
      have hin : m' ∈ nearL r L (idx L c) := List.mem_filter.2 ⟨mv_of.2 hm', by simpa using e1⟩
      have hsrt : (nearL r L (idx L c)).Pairwise (fun a b => mLt a b = true) := (mvs_sorted o.n4).filter _
      by_cases e : m = m'
      · subst e
        rcases ih.least q L' g' hl' (by omega) with z | z
        · exact .inl (by rw [z])
        · right
          unfold pLt
          rw [if_pos rfl]
          exact z
      · right
        unfold pLt
        rw [if_neg e]
        rw [hnear] at hin hsrt
        rcases List.mem_cons.1 hin with z | z
        · exact absurd z.symm e
        · exact (List.pairwise_cons.1 hsrt).1 m' z
theorem gp_snoc {r k : Nat} : ∀ (j : Nat) {L : Lanes}, (gp r k j L).1.length = j → (gp r k (j + 1) L).1.length = j + 1 → ∃ m, (nearL r (gp r k j L).2 k).head? = some m ∧ (gp r k (j + 1) L).1 = (gp r k j L).1 ++ [m] ∧ (gp r k (j + 1) L).2 = dm (gp r k j L).2 m
  | 0, L, _, h => by
    have e : gp r k 1 L = (match (nearL r L k).head? with | some m => (m :: (gp r k 0 (dm L m)).1, (gp r k 0 (dm L m)).2) | none => ([], L)) := rfl
    cases hh : (nearL r L k).head? with
    | none => rw [e, hh] at h; simp at h
    | some m =>
      rw [hh] at e
      exact ⟨m, hh, by rw [e]; rfl, by rw [e]; rfl⟩
  | j + 1, L, h0, h => by
    have e : gp r k (j + 1 + 1) L = (match (nearL r L k).head? with | some m => (m :: (gp r k (j + 1) (dm L m)).1, (gp r k (j + 1) (dm L m)).2) | none => ([], L)) := rfl
    have e' : gp r k (j + 1) L = (match (nearL r L k).head? with | some m => (m :: (gp r k j (dm L m)).1, (gp r k j (dm L m)).2) | none => ([], L)) := rfl
    cases hh : (nearL r L k).head? with
    | none => rw [e, hh] at h; simp at h
    | some m =>
      rw [hh] at e e'
      rw [e'] at h0
      rw [e] at h
      obtain ⟨m2, a, b, d⟩ := gp_snoc (r := r) (k := k) j (L := dm L m) (by simpa using h0) (by simpa using h)
      refine ⟨m2, by rw [e']; exact a, by rw [e, e']; simp [b], by rw [e, e']; exact d⟩
end CY

namespace CY
open CL
/-! ### all yards by moves, with the first of the shortest paths -/
abbrev Row := Lanes × Path
def nxt (r : Nat) (L : Lanes) : List ((Nat × Nat) × Lanes) := (mvs r L).map fun m => (m, dm L m)
/-- what a level leads to -/
def cand (r : Nat) (last : List Row) : List Row := last.flatMap fun e => (mvs r e.1).map fun m => (dm e.1 m, e.2 ++ [m])
def expd (r : Nat) (found last : List Row) : List Row := ((cand r last).foldl addF (found.map (·.1), [])).2
structure BI (r : Nat) (L0 : Lanes) (j : Nat) (found last : List Row) : Prop where
  good : ∀ e ∈ found, Good r L0 e.2 e.1 ∧ e.2.length ≤ j
  lst : ∀ e ∈ last, e ∈ found ∧ e.2.length = j
  srt : last.Pairwise (fun a b => pLt a.2 b.2 = true)
  nd : (found.map (·.1)).Nodup
theorem cand_mem {r : Nat} {last : List Row} {e : Row} (h : e ∈ cand r last) : ∃ e0 m, e0 ∈ last ∧ m ∈ mvs r e0.1 ∧ e = (dm e0.1 m, e0.2 ++ [m]) := by
  obtain ⟨e0, h0, h1⟩ := List.mem_flatMap.1 h
  obtain ⟨m, hm, rfl⟩ := List.mem_map.1 h1
  exact ⟨e0, m, h0, hm, rfl⟩
theorem cand_srt {r : Nat} {L0 : Lanes} {j : Nat} {found : List Row} (o : Ok r L0) : ∀ {last : List Row}, BI r L0 j found last → (cand r last).Pairwise (fun a b => pLt a.2 b.2 = true) := by
  intro last b
  unfold cand
  rw [List.pairwise_flatMap]
  refine ⟨fun e he => ?_, List.Pairwise.imp_of_mem ?_ b.srt⟩
  · rw [List.pairwise_map]
    obtain ⟨g, _⟩ := b.good e (b.lst e he).1
    exact (mvs_sorted (g.ok o).1.n4).imp fun hm => pLt_snoc e.2 hm
  · intro x y hx hy hxy a ha c hc
    obtain ⟨m, _, rfl⟩ := List.mem_map.1 ha
    obtain ⟨m', _, rfl⟩ := List.mem_map.1 hc
    exact pLt_app m m' (by rw [(b.lst x hx).2, (b.lst y hy).2]) hxy
theorem BI.step {r : Nat} {L0 : Lanes} {j : Nat} {found last : List Row} (o : Ok r L0) (b : BI r L0 j found last) : BI r L0 (j + 1) (found ++ expd r found last) (expd r found last) := by
  obtain ⟨e, h1, h2, h3, h4, h5⟩ := add_known (cand r last) (found.map (·.1)) ([] : List Row)
  have he : expd r found last = e := by unfold expd; rw [h1]; simp
  rw [he]
  have hg : ∀ x ∈ e, Good r L0 x.2 x.1 ∧ x.2.length = j + 1 := fun x hx => by
    obtain ⟨e0, m, a1, a2, rfl⟩ := cand_mem (h3.subset hx)
    obtain ⟨b1, b2⟩ := b.lst e0 a1
    obtain ⟨g, _⟩ := b.good e0 b1
    exact ⟨g.snoc (mv_of.1 a2), by simp [b2]⟩
  refine ⟨fun x hx => ?_, fun x hx => ⟨by simp [hx], (hg x hx).2⟩, List.Pairwise.sublist h3 (cand_srt o b), ?_⟩
  · rcases List.mem_append.1 hx with z | z
    · obtain ⟨g, l⟩ := b.good x z
      exact ⟨g, by omega⟩
    · obtain ⟨g, l⟩ := hg x z
      exact ⟨g, by omega⟩
  · rw [List.map_append, List.nodup_append]
    refine ⟨b.nd, h5, fun x hx y hy => ?_⟩
    obtain ⟨z, hz, rfl⟩ := List.mem_map.1 hy
    exact fun e => h4 z hz (e ▸ hx)
/-- the first moves out are among them -/
def Hit (r : Nat) (L0 : Lanes) (j : Nat) (last : List Row) : Prop := ∀ c ∈ L0.flatten, (few r L0 c).isSome = true → j ≤ (bef L0 c).length → ((gp r (idx L0 c) j L0).2, (gp r (idx L0 c) j L0).1) ∈ last
theorem free_of {r : Nat} {L : Lanes} {c : Nat} (hc : c ∈ L.flatten) (h : (few r L c).isSome = true) : L.flatten.length + r ≤ r * L.length + pos L c + 1 := by
  rw [few_iff hc] at h
  split at h
  · assumption
  · cases h
theorem Hit.step {r : Nat} {L0 : Lanes} {j : Nat} {found last : List Row} (o : Ok r L0) (b : BI r L0 j found last) (hit : Hit r L0 j last) : Hit r L0 (j + 1) (expd r found last) := by
  intro c hc hf hj
  have fr := free_of hc hf
  have g0 := gp_spec j o hc fr (by omega)
  have g1 := gp_spec (j + 1) o hc fr hj
  have h0 := hit c hc hf (by omega)
  obtain ⟨m, a1, a2, a3⟩ := gp_snoc (r := r) (k := idx L0 c) j (L := L0) g0.len g1.len
  generalize hS : (gp r (idx L0 c) j L0).2 = S at *
  generalize hp : (gp r (idx L0 c) j L0).1 = p at *
  have hm : m ∈ nearL r S (idx L0 c) := List.mem_of_head? a1
  obtain ⟨hmv, hmk⟩ := near_mv hm
  rw [a3, a2] at g1
  rw [a3, a2]
  have hin : (dm S m, p ++ [m]) ∈ cand r last := List.mem_flatMap.2 ⟨(S, p), h0, List.mem_map.2 ⟨m, mv_of.2 hmv, rfl⟩⟩
  obtain ⟨A, B, hAB⟩ := List.append_of_mem hin
  have hsrt := cand_srt o b
  unfold expd
  rw [hAB] at hsrt ⊢
  refine add_first ?_ fun a ha e => ?_
  · intro y
    obtain ⟨x, hx, ex⟩ := List.mem_map.1 y
    obtain ⟨gx, lx⟩ := b.good x hx
    have := bef_path o hc gx
    have hb := g1.bef
    rw [ex] at this
    simp only at this
    omega
  · have hac : a ∈ cand r last := by rw [hAB]; exact List.mem_append_left _ ha
    obtain ⟨e0, m0, c1, c2, rfl⟩ := cand_mem hac
    obtain ⟨b1, b2⟩ := b.lst e0 c1
    have ga := (b.good e0 b1).1.snoc (mv_of.1 c2)
    simp only at e
    rw [e] at ga
    have hlt : pLt (e0.2 ++ [m0]) (p ++ [m]) = true := (List.pairwise_append.1 hsrt).2.2 _ ha _ (List.mem_cons_self ..)
    rcases g1.least _ _ ga (by simp [b2]) g1.bef with z | z
    · rw [z, pLt_irrefl] at hlt; cases hlt
    · rw [pLt_asymm z] at hlt; cases hlt
/-! ### they are few -/
theorem nodup_leG {α : Type} [DecidableEq α] : ∀ (a l : List α), l.Nodup → (∀ x ∈ l, x ∈ a) → l.length ≤ a.length
  | [], l, _, h => by
    cases l with
    | nil => simp
    | cons x l => exact absurd (h x (by simp)) (by simp)
  | z :: a, l, nd, h => by
    have ih := nodup_leG a (l.erase z) (nd.erase z) fun x hx => by
      have hne : x ≠ z := fun e => by
        subst e
        exact (List.Nodup.not_mem_erase nd) hx
      rcases List.mem_cons.1 (h x (List.mem_of_mem_erase hx)) with e | e
      · exact absurd e hne
      · exact e
    have := List.length_erase (a := z) (l := l)
    split at this <;> simp only [List.length_cons] <;> omega
theorem flat_inj : ∀ {L M : Lanes}, lens L = lens M → L.flatten = M.flatten → L = M
  | [], [], _, _ => rfl
  | [], _ :: _, h, _ => by simp [lens] at h
  | _ :: _, [], h, _ => by simp [lens] at h
  | l :: L, m :: M, h, h2 => by
    simp only [lens, List.map_cons, List.cons.injEq] at h
    simp only [List.flatten_cons] at h2
    obtain ⟨e1, e2⟩ := List.append_inj h2 h.1
    rw [e1, flat_inj (L := L) (M := M) h.2 e2]
def prm : List Nat → List (List Nat)
  | [] => [[]]
  | [a] => [[a]]
  | [a, b] => [[a, b], [b, a]]
  | [a, b, c] => [[a, b, c], [a, c, b], [b, a, c], [b, c, a], [c, a, b], [c, b, a]]
  | _ => []
theorem prm_len (l : List Nat) : (prm l).length ≤ 6 := by
  unfold prm
  split <;> simp
theorem mem_prm {l l' : List Nat} (h : l'.Perm l) (nd : l.Nodup) (hl : l.length ≤ 3) : l' ∈ prm l := by
  have hlen := h.length_eq
  have nd' : l'.Nodup := h.nodup_iff.2 nd
  have hm : ∀ x, x ∈ l' → x ∈ l := fun x hx => h.mem_iff.1 hx
  match l, hl with
  | [], _ =>
    have : l' = [] := List.length_eq_zero_iff.1 hlen
    subst this; simp [prm]
  | [a], _ =>
    match l', hlen with
    | [x], _ => have := hm x (by simp); simp at this; subst this; simp [prm]
  | [a, b], _ =>
    match l', hlen with
    | [x, y], _ =>
      have h1 := hm x (by simp)
      have h2 := hm y (by simp)
      simp at h1 h2 nd' nd
      simp only [prm, List.mem_cons, List.cons.injEq, List.not_mem_nil, or_false, and_true]
      omega
  | [a, b, c], _ =>
    match l', hlen with
    | [x, y, z], _ =>
      have h1 := hm x (by simp)
      have h2 := hm y (by simp)
      have h3 := hm z (by simp)
      simp at h1 h2 h3 nd' nd
      rcases h1 with rfl | rfl | rfl <;> rcases h2 with rfl | rfl | rfl <;> rcases h3 with rfl | rfl | rfl <;> first | (exact absurd rfl nd'.1.1) | (exact absurd rfl nd'.1.2) | (exact absurd rfl nd'.2) | simp [prm]
def lensN : Nat → List (List Nat)
  | 0 => [[]]
  | n + 1 => (List.range 4).flatMap fun x => (lensN n).map (x :: ·)
theorem mem_lensN : ∀ (n : Nat) {l : List Nat}, l.length = n → (∀ x ∈ l, x < 4) → l ∈ lensN n
  | 0, l, h, _ => by
    have : l = [] := List.length_eq_zero_iff.1 h
    subst this; simp [lensN]
  | n + 1, [], h, _ => by simp at h
  | n + 1, x :: l, h, hx => by
    refine List.mem_flatMap.2 ⟨x, by simpa using hx x (by simp), List.mem_map.2 ⟨l, mem_lensN n (by simpa using h) fun y hy => hx y (by simp [hy]), rfl⟩⟩
theorem lensN_len {n : Nat} (h : n ≤ 3) : (lensN n).length ≤ 64 := by
  have : n = 0 ∨ n = 1 ∨ n = 2 ∨ n = 3 := by omega
  rcases this with e | e | e | e <;> subst e <;> decide
theorem flatMap_le {α β : Type} (f : α → List β) (k : Nat) : ∀ l : List α, (∀ x ∈ l, (f x).length ≤ k) → (l.flatMap f).length ≤ l.length * k
  | [], _ => by simp
  | x :: l, h => by
    have := flatMap_le f k l fun y hy => h y (by simp [hy])
    have := h x (by simp)
    simp only [List.flatMap_cons, List.length_append, List.length_cons, Nat.add_mul]
    omega
theorem BI.few {r : Nat} {L0 : Lanes} {j : Nat} {found last : List Row} (o : Ok r L0) (b : BI r L0 j found last) (h3 : L0.flatten.length ≤ 3) (hn : L0.length ≤ 3) : found.length ≤ 384 := by
  have key := nodup_leG ((prm L0.flatten).flatMap fun p => (lensN L0.length).map fun l => (p, l)) ((found.map (·.1)).map fun L => (L.flatten, lens L)) ?_ ?_
  · rw [List.length_map, List.length_map] at key
    have h1 := flatMap_le (fun p => (lensN L0.length).map fun l => (p, l)) 64 (prm L0.flatten) (fun x _ => by rw [List.length_map]; exact lensN_len hn)
    have h2 := prm_len L0.flatten
    omega
  · rw [List.nodup_iff_pairwise_ne, List.pairwise_map]
    exact List.Pairwise.imp (fun hne e => hne (flat_inj (Prod.mk.inj e).2 (Prod.mk.inj e).1)) b.nd
  · intro x hx
    obtain ⟨L, hL, rfl⟩ := List.mem_map.1 hx
    obtain ⟨e, he, rfl⟩ := List.mem_map.1 hL
    obtain ⟨g, _⟩ := b.good e he
    obtain ⟨o', hl, pm⟩ := g.ok o
    refine List.mem_flatMap.2 ⟨_, mem_prm pm o.nd h3, List.mem_map.2 ⟨_, mem_lensN _ (by unfold lens; rw [List.length_map, hl]) fun y hy => ?_, rfl⟩⟩
    have h8 := pm.length_eq
    obtain ⟨l, hl', rfl⟩ := List.mem_map.1 hy
    have : l.length ≤ e.1.flatten.length := by
      exact (List.sublist_flatten_of_mem hl').length_le
    omega
end CY

namespace CY
open CL
open PySem.W (dataLt alike alikeAll keyToks keyToksAll dataLt_int)
open PyProof.Rows (lexLt)
/-! ### the least of a row -/
theorem fold_map {α : Type} (f : α → D) (lt : α → α → Bool) (h : ∀ a b, ltD (f a) (f b) = lt a b) : ∀ (xs : List α) (x : α), (xs.map f).foldl (fun a y => if ltD y a then y else a) (f x) = f (xs.foldl (fun a y => if lt y a then y else a) x)
  | [], x => rfl
  | y :: xs, x => by
    simp only [List.map_cons, List.foldl_cons, h]
    split
    · exact fold_map f lt h xs y
    · exact fold_map f lt h xs x
theorem fold_least {α : Type} {lt : α → α → Bool} {p : α} (irr : lt p p = false) (asym : ∀ q, lt p q = true → lt q p = false) : ∀ (xs : List α) (x : α), (x = p ∨ (lt p x = true ∧ p ∈ xs)) → (∀ q ∈ xs, q = p ∨ lt p q = true) → xs.foldl (fun a y => if lt y a then y else a) x = p
  | [], x, h, _ => by
    rcases h with h | ⟨_, h⟩
    · exact h
    · simp at h
  | y :: xs, x, h, hq => by
    simp only [List.foldl_cons]
    have hy := hq y (by simp)
    have hr : ∀ q ∈ xs, q = p ∨ lt p q = true := fun q h => hq q (by simp [h])
    rcases h with h | ⟨h1, h2⟩
    · subst h
      have : lt y x = false := by
        rcases hy with e | e
        · rw [e]; exact irr
        · exact asym y e
      rw [this]
      exact fold_least irr asym xs x (.inl rfl) hr
    · rcases List.mem_cons.1 h2 with e | e
      · subst e
        rw [if_pos h1]
        exact fold_least irr asym xs p (.inl rfl) hr
      · split
        · rcases hy with z | z
          · exact fold_least irr asym xs y (.inl z) hr
          · exact fold_least irr asym xs y (.inr ⟨z, e⟩) hr
        · exact fold_least irr asym xs x (.inr ⟨h1, e⟩) hr
theorem minG_least {α : Type} (f : α → D) (lt : α → α → Bool) (h : ∀ a b, ltD (f a) (f b) = lt a b) {l : List α} {p : α} (hm : p ∈ l) (ho : ordB (l.map f) = true) (irr : lt p p = false) (asym : ∀ q, lt p q = true → lt q p = false) (hq : ∀ q ∈ l, q = p ∨ lt p q = true) : D.minG [.lst (l.map f)] = .ok (f p) := by
  cases l with
  | nil => simp at hm
  | cons x xs =>
    show (if ordB ((x :: xs).map f) = true then R.ok ((xs.map f).foldl (fun a y => if ltD y a then y else a) (f x)) else .bad) = _
    rw [if_pos ho, fold_map f lt h]
    congr 2
    refine fold_least irr asym xs x ?_ fun q hq' => hq q (by simp [hq'])
    rcases List.mem_cons.1 hm with e | e
    · exact .inl e.symm
    · rcases hq x (by simp) with z | z
      · exact .inl z
      · exact .inr ⟨z, e⟩
theorem ltD_int (a b : Int) : ltD (.int a) (.int b) = decide (a < b) := by
  unfold ltD
  simp only [D.py]
  exact dataLt_int a b
theorem plains_map {α : Type} (f : α → D) (h : ∀ a, (f a).plain = true) : ∀ l : List α, D.plains (l.map f) = true
  | [] => rfl
  | x :: l => by rw [List.map_cons]; simp only [D.plains, h, plains_map f h l, Bool.and_self]
theorem deps_map {α : Type} (f : α → D) (k : Nat) (h : ∀ a, (f a).dep ≤ k) : ∀ l : List α, D.deps (l.map f) ≤ k
  | [] => by simp [D.deps]
  | x :: l => by
    rw [List.map_cons]; simp only [D.deps]
    exact Nat.max_le.2 ⟨h x, deps_map f k h l⟩
theorem ord_map {α : Type} (f : α → D) (l : List α) (h1 : ∀ a ∈ l, ∀ b ∈ l, alike (f a).py (f b).py = true) (h2 : ∀ a, f a ≠ .non) (h3 : ∀ a, (f a).plain = true) (k : Nat) (hk : k ≤ 40) (h4 : ∀ a, (f a).dep ≤ k) : ordB (l.map f) = true := by
  have e2 : ∀ a, (match f a with | .non => false | _ => true) = true := fun a => by
    have := h2 a
    cases e : f a <;> first | rfl | exact absurd e this
  simp only [ordB, Bool.and_eq_true, List.all_eq_true, decide_eq_true_eq]
  refine ⟨⟨⟨fun x hx y hy => ?_, fun x hx => ?_⟩, plains_map f h3 l⟩, Nat.le_trans (deps_map f k h4 l) hk⟩
  · obtain ⟨a, ha, rfl⟩ := List.mem_map.1 hx
    obtain ⟨b, hb, rfl⟩ := List.mem_map.1 hy
    exact h1 a ha b hb
  · obtain ⟨a, ha, rfl⟩ := List.mem_map.1 hx
    exact e2 a
theorem ev_minInt {l : List Int} {n : Int} (hm : n ∈ l) (h : ∀ x ∈ l, n ≤ x) : D.minG [.lst (l.map D.int)] = .ok (.int n) :=
  minG_least D.int (fun a b => decide (a < b)) ltD_int hm (ord_map D.int l (fun a _ b _ => by simp [D.py, alike]) (fun a => by simp) (fun a => rfl) 0 (by decide) fun a => by simp [D.dep]) (by simp) (fun q hq => by simp at hq ⊢; omega) fun q hq => by
    have := h q hq
    simp; omega
/-! paths -/
def pthD (p : Path) : D := .lst (p.map mvD)
theorem py_mv (m : Nat × Nat) : (mvD m).py = .tuple [.int m.1, .int m.2] := by simp [mvD, D.py, D.pys]
theorem py_pth (p : Path) : (pthD p).py = .list (p.map fun m => .tuple [.int m.1, .int m.2]) := by
  unfold pthD
  simp only [D.py]
  rw [pys_map, List.map_map]
  congr 1
theorem alike_pth : ∀ p q : Path, alikeAll (p.map fun m => PySem.PyData.tuple [.int m.1, .int m.2]) (q.map fun m => .tuple [.int m.1, .int m.2]) = true
  | [], _ => by simp [alikeAll]
  | _ :: _, [] => by simp [alikeAll]
  | a :: p, b :: q => by
    simp only [List.map_cons, alikeAll, alike, alike_pth p q, Bool.and_self]
theorem lt_mv (a b : Nat × Nat) : dataLt (.tuple [.int a.1, .int a.2]) (.tuple [.int b.1, .int b.2]) = mLt a b := by
  rw [PySem.W.dataLt_tuple]
  simp only [keyToksAll, keyToks, List.cons_append, List.nil_append]
  rw [PyProof.Rows.lex_self (O := PyProof.Rows.itemOrd)]
  by_cases h : a.1 = b.1
  · rw [h, PyProof.Rows.lex_self (O := PyProof.Rows.itemOrd), PyProof.Rows.lex_self (O := PyProof.Rows.itemOrd)]
    by_cases h2 : a.2 = b.2
    · rw [h2, PyProof.Rows.lex_self (O := PyProof.Rows.itemOrd), PyProof.Rows.lex_self (O := PyProof.Rows.itemOrd)]
      simp [PyProof.Rows.lexLt, mLt, h, h2]
    · rw [PyProof.Rows.lex_diff (O := PyProof.Rows.itemOrd) (by simp; omega)]
      simp [PyProof.Rows.itemLt, mLt, h]
  · rw [PyProof.Rows.lex_diff (O := PyProof.Rows.itemOrd) (by simp; omega)]
    simp [PyProof.Rows.itemLt, mLt, h]
theorem lex_pth : ∀ p q : Path, PyProof.Rows.lexLt PyProof.Rows.itemOrd (keyToksAll (p.map fun m => PySem.PyData.tuple [.int m.1, .int m.2])) (keyToksAll (q.map fun m => .tuple [.int m.1, .int m.2])) = pLt p q
  | [], [] => by
    simp only [List.map_nil, keyToksAll, pLt]
    rw [PyProof.Rows.lex_self (O := PyProof.Rows.itemOrd)]
    rfl
  | [], b :: q => by
    simp only [List.map_nil, List.map_cons, keyToksAll, pLt]
    rw [PyProof.Rows.lex_diff (O := PyProof.Rows.itemOrd) (by simp)]
    rfl
  | a :: p, [] => by
    simp only [List.map_nil, List.map_cons, keyToksAll, pLt]
    rw [PyProof.Rows.lex_diff (O := PyProof.Rows.itemOrd) (by simp)]
    rfl
  | a :: p, b :: q => by
    have al : alike (.tuple [.int a.1, .int a.2]) (.tuple [.int b.1, .int b.2]) = true := by simp [alike, alikeAll]
    rw [List.map_cons, List.map_cons]
    unfold pLt
    by_cases e : a = b
    · subst e
      rw [if_pos rfl, PySem.W.dataLt_all_yes al (by simp [PySem.PyData.eqv, PySem.PyData.eqvAll])]
      exact lex_pth p q
    · have ne : PySem.PyData.eqv (.tuple [.int a.1, .int a.2]) (.tuple [.int b.1, .int b.2]) = false := by
        simp only [PySem.PyData.eqv, PySem.PyData.eqvAll, Bool.and_true]
        by_cases h1 : a.1 = b.1
        · by_cases h2 : a.2 = b.2
          · exact absurd (Prod.ext h1 h2) e
          · simp; omega
        · simp; omega
      rw [if_neg e, PySem.W.dataLt_all_no al ne, lt_mv]
theorem ltD_pth (p q : Path) : ltD (pthD p) (pthD q) = pLt p q := by
  unfold ltD dataLt
  rw [py_pth, py_pth]
  simp only [keyToks]
  exact lex_pth p q
theorem mv_plain (m : Nat × Nat) : (mvD m).plain = true := by simp [mvD, D.plain, D.plains]
theorem mv_dep (m : Nat × Nat) : (mvD m).dep ≤ 1 := by simp [mvD, D.dep, D.deps]
theorem pth_plain (p : Path) : (pthD p).plain = true := by
  unfold pthD
  simp only [D.plain]
  exact plains_map mvD mv_plain p
theorem pth_dep (p : Path) : (pthD p).dep ≤ 2 := by
  unfold pthD
  simp only [D.dep]
  have := deps_map mvD 1 mv_dep p
  omega
theorem ev_minPth {l : List Path} {p : Path} (hm : p ∈ l) (h : ∀ q ∈ l, q = p ∨ pLt p q = true) : D.minG [.lst (l.map pthD)] = .ok (pthD p) :=
  minG_least pthD pLt ltD_pth hm (ord_map pthD l (fun a _ b _ => by rw [py_pth, py_pth]; simp only [alike]; exact alike_pth a b) (fun a => by simp [pthD]) pth_plain 2 (by decide) pth_dep) (pLt_irrefl p) (fun q hq => pLt_asymm hq) h
/-! (number, car) -/
theorem ltD_p (a b : Int × Nat) : ltD (pD a) (pD b) = ltp a b := by
  rw [← ltIS_p]
  unfold ltD pD
  exact dataLt_IS a.1 b.1 [a.2] [b.2]
theorem ev_minG (x : Int × Nat) (xs : List (Int × Nat)) : D.minG [.lst ((x :: xs).map pD)] = .ok (pD (lst x xs)) := by
  have ho : ordB ((x :: xs).map pD) = true := ord_map pD (x :: xs) (fun a _ b _ => by simp [pD, D.py, D.pys, alike, alikeAll]) (fun a => by simp [pD]) (fun a => by simp [pD, D.plain, D.plains]) 1 (by decide) fun a => by simp [pD, D.dep, D.deps]
  show (if ordB ((x :: xs).map pD) = true then R.ok ((xs.map pD).foldl (fun a y => if ltD y a then y else a) (pD x)) else .bad) = _
  rw [if_pos ho, fold_map pD ltp ltD_p]
  rfl
end CY
namespace CY
open CL
def nxD (r : Nat) (x : (Nat × Nat) × Lanes) : D := .tup [mvD x.1, yd r x.2]
theorem nxt_eq (r : Nat) (L : Lanes) : nxt r L = (List.range L.length).flatMap fun i => ((List.range L.length).filter fun z => i != z && psb r L (i, z)).map fun z => ((i, z), dm L (i, z)) := by
  unfold nxt mvs prs
  rw [List.filter_flatMap, List.map_flatMap]
  congr 1
  funext i
  rw [List.filter_map, List.filter_filter, List.map_map]
  have : (fun x => ((psb r L) ∘ fun j => (i, j)) x && (i != x)) = fun z => i != z && psb r L (i, z) := by
    funext z
    show (psb r L (i, z) && (i != z)) = _
    rw [Bool.and_comm]
  first
    | (rw [this]; rfl)
    | (simp only [Function.comp_def] at *; congr 1; apply List.filter_congr; intro z _; simp [Bool.and_comm])
end CY
namespace CY
open CL
def rowD (r : Nat) (e : Row) : D := .tup [yd r e.1, pthD e.2]
theorem eqvs_strs : ∀ L M : Lanes, D.eqvs (L.map D.str) (M.map D.str) = decide (L = M)
  | [], [] => by simp [D.eqvs]
  | [], m :: M => by simp [D.eqvs]
  | l :: L, [] => by simp [D.eqvs]
  | l :: L, m :: M => by
    rw [List.map_cons, List.map_cons]
    simp only [D.eqvs, D.eqv, eqvs_strs L M]
    by_cases h : l = m
    · subst h; simp
    · simp [h]
theorem yd_eqv (r : Nat) (L M : Lanes) : D.eqv (yd r L) (yd r M) = decide (L = M) := by
  simp [yd, D.eqv, D.eqvs, eqvs_strs]
theorem plains_strs : ∀ l : Lanes, D.plains (l.map D.str) = true
  | [] => rfl
  | x :: l => by rw [List.map_cons]; simp only [D.plains, plains_strs l, D.plain, Bool.and_true]
theorem deps_strs : ∀ l : Lanes, D.deps (l.map D.str) = 0
  | [] => rfl
  | x :: l => by rw [List.map_cons]; simp only [D.deps, deps_strs l, D.dep, Nat.max_self]
theorem yd_plain (r : Nat) (L : Lanes) : (yd r L).plain = true := by simp [yd, D.plain, D.plains, plains_strs]
theorem yd_dep (r : Nat) (L : Lanes) : (yd r L).dep = 2 := by simp [yd, D.dep, D.deps, deps_strs]
theorem ev_notinY (r : Nat) (L : Lanes) (k : List Lanes) : D.notin (yd r L) (.lst (k.map (yd r))) = .ok (.bl !decide (L ∈ k)) := by
  have h1 : D.plains (k.map (yd r)) = true := plains_map _ (yd_plain r) k
  have h2 : (k.map (yd r)).any (fun z => z.eqv (yd r L)) = decide (L ∈ k) := by
    rw [List.any_map]
    induction k with
    | nil => simp
    | cons x k ih =>
      rw [List.any_cons, ih (plains_map _ (yd_plain r) k)]
      show (D.eqv (yd r x) (yd r L) || _) = _
      rw [yd_eqv]
      by_cases e : x = L
      · subst e; simp
      · simp [e, Ne.symm e, eq_comm]
  show (if (yd r L).plain && D.plains (k.map (yd r)) && decide ((yd r L).dep ≤ 60) then R.ok (D.bl !((k.map (yd r)).any fun z => z.eqv (yd r L))) else .bad) = _
  rw [yd_plain, h1, yd_dep, h2]
  simp
theorem row_plain (r : Nat) (e : Row) : (rowD r e).plain = true := by
  simp only [rowD, D.plain, D.plains, yd_plain, pth_plain, Bool.and_self]
theorem ne_nil {α : Type} (f : α → D) (h : ∀ a, (f a).plain = true) (l : List α) : D.ne (.lst (l.map f)) (.lst []) = .ok (.bl !l.isEmpty) := by
  have hp : D.plain (.lst (l.map f)) = true := plains_map f h l
  unfold D.ne
  have hd : min (D.dep (.lst (l.map f))) (D.dep (.lst [])) ≤ 60 := by
    have : D.dep (.lst []) ≤ 60 := by decide
    omega
  rw [hp, show D.plain (.lst []) = true from rfl, decide_eq_true hd]
  simp only [Bool.and_self, if_true]
  congr 2
  cases l with
  | nil => rfl
  | cons x l => simp [D.eqv, D.eqvs]
theorem eq_nil {α : Type} (f : α → D) (h : ∀ a, (f a).plain = true) (l : List α) : D.eq (.lst (l.map f)) (.lst []) = .ok (.bl l.isEmpty) := by
  have hp : D.plain (.lst (l.map f)) = true := plains_map f h l
  unfold D.eq
  have hd : min (D.dep (.lst (l.map f))) (D.dep (.lst [])) ≤ 60 := by
    have : D.dep (.lst []) ≤ 60 := by decide
    omega
  rw [hp, show D.plain (.lst []) = true from rfl, decide_eq_true hd]
  simp only [Bool.and_self, if_true]
  congr 2
  cases l with
  | nil => rfl
  | cons x l => simp [D.eqv, D.eqvs]
theorem ev_addL {a b : List D} (h : a.length + b.length ≤ 16777216) : D.add (.lst a) (.lst b) = .ok (.lst (a ++ b)) := by
  show (if a.length + b.length ≤ lim then R.ok (D.lst (a ++ b)) else .bad) = _
  rw [if_pos h]
theorem add_len {α : Type} [DecidableEq α] {β : Type} : ∀ (C : List (α × β)) (k : List α) (l : List (α × β)), (C.foldl addF (k, l)).1.length ≤ k.length + C.length ∧ (C.foldl addF (k, l)).2.length ≤ l.length + C.length
  | [], k, l => by simp
  | c :: C, k, l => by
    simp only [List.foldl_cons]
    by_cases h : c.1 ∈ k
    · have e0 : addF (k, l) c = (k, l) := by simp [addF, h]
      rw [e0]
      have := add_len C k l
      simp only [List.length_cons]
      omega
    · have e0 : addF (k, l) c = (k ++ [c.1], l ++ [c]) := by simp [addF, h]
      rw [e0]
      have := add_len C (k ++ [c.1]) (l ++ [c])
      simp only [List.length_cons, List.length_append, List.length_nil] at this ⊢
      omega
end CY

namespace CY
open CL
def stp (r : Nat) (L : Lanes) (a : Option (Int × Nat)) (c : Nat) : Option (Int × Nat) := match few r L c with
  | none => a
  | some n => match a with
    | none => some (0 - (n : Int), c)
    | some p => if (0 - p.1) < (n : Int) then some (0 - (n : Int), c) else some p
def outsOf (r : Nat) (L : Lanes) (cs : List Nat) : List (Int × Nat) := (cs.filter fun c => (few r L c).isSome).map fun c => (0 - ((few r L c).getD 0 : Int), c)
theorem fold_some {r : Nat} {L : Lanes} : ∀ (cs : List Nat) (p : Int × Nat), (∀ c ∈ cs, p.2 < c) → cs.Pairwise (· < ·) → cs.foldl (stp r L) (some p) = some ((outsOf r L cs).foldl (fun a y => if ltp y a then y else a) p)
  | [], p, _, _ => rfl
  | c :: cs, p, h, hs => by
    obtain ⟨h1, h2⟩ := List.pairwise_cons.1 hs
    have hp := h c (by simp)
    simp only [List.foldl_cons]
    cases e : few r L c with
    | none =>
      have e1 : stp r L (some p) c = some p := by simp [stp, e]
      have e2 : outsOf r L (c :: cs) = outsOf r L cs := by simp [outsOf, e]
      rw [e1, e2]
      exact fold_some cs p (fun z hz => h z (by simp [hz])) h2
    | some n =>
      have e2 : outsOf r L (c :: cs) = (0 - (n : Int), c) :: outsOf r L cs := by simp [outsOf, e]
      have e3 : ltp (0 - (n : Int), c) p = decide ((0 - p.1) < (n : Int)) := by
        simp only [ltp]
        rw [show decide (c < p.2) = false from by simp; omega, Bool.and_false, Bool.or_false]
        by_cases h : (0 - p.1) < (n : Int)
        · simp [h]; omega
        · simp [h]; omega
      rw [e2, List.foldl_cons, e3]
      by_cases hc : (0 - p.1) < (n : Int)
      · have e1 : stp r L (some p) c = some (0 - (n : Int), c) := by simp only [stp, e, if_pos hc]
        rw [e1, if_pos (decide_eq_true hc)]
        exact fold_some cs _ h1 h2
      · have e1 : stp r L (some p) c = some p := by simp only [stp, e, if_neg hc]
        rw [e1, if_neg (by simpa using hc)]
        exact fold_some cs p (fun z hz => h z (by simp [hz])) h2
theorem fold_none {r : Nat} {L : Lanes} : ∀ (cs : List Nat), cs.Pairwise (· < ·) → cs.foldl (stp r L) none = match outsOf r L cs with | [] => none | x :: xs => some (lst x xs)
  | [], _ => rfl
  | c :: cs, hs => by
    obtain ⟨h1, h2⟩ := List.pairwise_cons.1 hs
    simp only [List.foldl_cons]
    cases e : few r L c with
    | none =>
      have e1 : stp r L none c = none := by simp [stp, e]
      have e2 : outsOf r L (c :: cs) = outsOf r L cs := by simp [outsOf, e]
      rw [e1, e2]
      exact fold_none cs h2
    | some n =>
      have e1 : stp r L none c = some (0 - (n : Int), c) := by simp [stp, e]
      have e2 : outsOf r L (c :: cs) = (0 - (n : Int), c) :: outsOf r L cs := by simp [outsOf, e]
      rw [e1, e2, fold_some cs _ h1 h2]
      rfl

mutual
theorem eqv_refl : ∀ d : D, d.plain = true → d.eqv d = true
  | .non, _ => by simp [D.eqv]
  | .bl b, _ => by simp [D.eqv]
  | .int i, _ => by simp [D.eqv]
  | .str s, _ => by simp [D.eqv]
  | .lst l, h => by
    simp only [D.eqv]
    exact eqvs_refl l (by simpa [D.plain] using h)
  | .tup l, h => by
    simp only [D.eqv]
    exact eqvs_refl l (by simpa [D.plain] using h)
  | .dct l, h => by simp [D.plain] at h
  | .opq n l, h => by simp [D.plain] at h
theorem eqvs_refl : ∀ l : List D, D.plains l = true → D.eqvs l l = true
  | [], _ => by simp [D.eqvs]
  | d :: l, h => by
    simp only [D.plains, Bool.and_eq_true] at h
    simp only [D.eqvs, eqv_refl d h.1, eqvs_refl l h.2, Bool.and_self]
end
theorem ne_refl {d : D} (h : d.plain = true) (hd : d.dep ≤ 60) : D.ne d d = .ok (.bl false) := by
  unfold D.ne
  rw [h, Nat.min_self, decide_eq_true hd, eqv_refl d h]
  rfl
theorem eq_refl {d : D} (h : d.plain = true) (hd : d.dep ≤ 60) : D.eq d d = .ok (.bl true) := by
  unfold D.eq
  rw [h, Nat.min_self, decide_eq_true hd, eqv_refl d h]
  rfl
def rowsF (F : List Row) (c : Nat) : List Path := (F.filter fun e => decide (bef e.1 c = [])).map (·.2)
structure RowsOk (r : Nat) (L : Lanes) (F : List Row) : Prop where
  good : ∀ e ∈ F, Good r L e.2 e.1 ∧ e.2.length ≤ 500
  len : F.length ≤ 384
  hit : ∀ c ∈ L.flatten, (few r L c).isSome = true → ((gp r (idx L c) (bef L c).length L).2, (gp r (idx L c) (bef L c).length L).1) ∈ F
theorem rows_none {r : Nat} {L : Lanes} {F : List Row} (o : Ok r L) (h : RowsOk r L F) {c : Nat} (hc : c ∈ L.flatten) (hf : few r L c = none) : rowsF F c = [] := by
  unfold rowsF
  rw [List.map_eq_nil_iff, List.filter_eq_nil_iff]
  intro e he hb
  have hb : bef e.1 c = [] := by simpa using hb
  obtain ⟨g, _⟩ := h.good e he
  obtain ⟨o', _, pm⟩ := g.ok o
  have hc' := pm.mem_iff.2 hc
  have h1 := few_path o hc g
  rw [hf] at h1
  have hp := pos_lt hc'
  have hbl := bef_len (L := e.1) (c := c)
  rw [hb] at hbl
  simp only [List.length_nil] at hbl
  have := top_free o' hc' (by omega)
  rw [few_iff hc', if_pos this] at h1
  cases h1
theorem rows_some {r : Nat} {L : Lanes} {F : List Row} (o : Ok r L) (h : RowsOk r L F) {c : Nat} (hc : c ∈ L.flatten) (hf : (few r L c).isSome = true) :
    (gp r (idx L c) (bef L c).length L).1 ∈ rowsF F c ∧ (gp r (idx L c) (bef L c).length L).1.length = (bef L c).length ∧ (∀ q ∈ rowsF F c, (bef L c).length ≤ q.length) ∧ ∀ q ∈ rowsF F c, q.length = (bef L c).length → q = (gp r (idx L c) (bef L c).length L).1 ∨ pLt (gp r (idx L c) (bef L c).length L).1 q = true := by
  have g := gp_spec (bef L c).length o hc (free_of hc hf) (Nat.le_refl _)
  have hb : bef (gp r (idx L c) (bef L c).length L).2 c = [] := List.length_eq_zero_iff.1 (by have := g.bef; omega)
  have key : ∀ q ∈ rowsF F c, ∃ L', Good r L q L' ∧ bef L' c = [] := fun q hq => by
    obtain ⟨e, he, rfl⟩ := List.mem_map.1 hq
    obtain ⟨h1, h2⟩ := List.mem_filter.1 he
    exact ⟨e.1, (h.good e h1).1, by simpa using h2⟩
  refine ⟨List.mem_map.2 ⟨_, List.mem_filter.2 ⟨h.hit c hc hf, by simpa using hb⟩, rfl⟩, g.len, fun q hq => ?_, fun q hq hl => ?_⟩
  · obtain ⟨L', g', hb'⟩ := key q hq
    have := bef_path o hc g'
    rw [hb'] at this
    simpa using this
  · obtain ⟨L', g', hb'⟩ := key q hq
    exact g.least q L' g' hl (by rw [hb']; simp)
def hD : Option (Int × Nat) → D
  | none => .non
  | some p => .tup [.int (0 - p.1), .str [p.2]]
end CY

namespace CY
open CL
/-! ### a car struck out of all lanes -/
def strike (L : Lanes) (c : Nat) : Lanes := L.map fun l => l.filter (· != c)
theorem strike_top {r : Nat} {L : Lanes} {c : Nat} (o : Ok r L) (h : Tp L c) : strike L c = rm L c := by
  refine List.ext_getElem? fun k => ?_
  by_cases hk : k < L.length
  · have e1 : (strike L c)[k]? = some ((lanN L k).filter (· != c)) := by
      unfold strike
      rw [List.getElem?_map, lanN_get hk]; rfl
    have hk2 : k < (rm L c).length := by rw [rm_len]; exact hk
    rw [e1, lanN_get hk2, lanN_rm h]
    by_cases hi : k = idx L c
    · rw [if_pos hi]
      subst hi
      rw [← lane_eq]
      have hs := h.split
      have nd := lane_nd o.nd hk
      rw [← lane_eq] at nd
      rw [← hs] at nd
      have hn : c ∉ (lane L c).dropLast := fun z => by
        rw [List.nodup_append] at nd
        exact nd.2.2 c z c (by simp) rfl
      conv => lhs; rw [← hs]
      rw [List.filter_append]
      simp only [List.filter_cons, bne_self_eq_false, Bool.false_eq_true, if_false, List.filter_nil, List.append_nil]
      congr 1
      exact List.filter_eq_self.2 fun x hx => by
        have : x ≠ c := fun z => hn (z ▸ hx)
        simpa using this
    · rw [if_neg hi]
      congr 1
      exact List.filter_eq_self.2 fun x hx => by
        have : x ≠ c := fun z => hi (idx_eq o.nd hk (z ▸ hx)).symm
        simpa using this
  · rw [List.getElem?_eq_none (by simp [strike]; omega), List.getElem?_eq_none (by rw [rm_len]; omega)]
@[simp] theorem ev_ixT {a : List D} {k : Nat} {d : D} (h : a[k]? = some d) : D.ixT (.tup a) (.int k) = .ok d := by
  show (match L2.atI a (k : Int) with | some d => R.ok d | none => .bad) = _
  rw [atI_nat, h]
theorem ydT0 (r : Nat) (L : Lanes) : D.ixT (yd r L) (.int 0) = .ok (.int r) := ev_ixT (k := 0) rfl
theorem ydT1 (r : Nat) (L : Lanes) : D.ixT (yd r L) (.int 1) = .ok (.tup (L.map D.str)) := ev_ixT (k := 1) rfl
theorem ev_strike (l : List Nat) (c : Nat) : D.strike (.str l) (.str [c]) = .ok (.str (l.filter (· != c))) := rfl
end CY

namespace CY
open CL
/-! ### all orders, and the free ones among them -/
def longer (known : List Nat) (fs : List (List Nat)) : List (List Nat) := fs.flatMap fun p => (known.filter fun c => !decide (c ∈ p)).map fun c => p ++ [c]
def rounds (known : List Nat) : Nat → List (List Nat) → List (List Nat)
  | 0, fs => fs
  | n + 1, fs => rounds known n (longer known fs)
def cont (known : List Nat) : Nat → List Nat → List (List Nat)
  | 0, _ => [[]]
  | n + 1, p => (known.filter fun c => !decide (c ∈ p)).flatMap fun c => (cont known n (p ++ [c])).map fun t => c :: t
theorem rounds_app (known : List Nat) : ∀ (n : Nat) (a b : List (List Nat)), rounds known n (a ++ b) = rounds known n a ++ rounds known n b
  | 0, _, _ => rfl
  | n + 1, a, b => by
    show rounds known n (longer known (a ++ b)) = _
    rw [show longer known (a ++ b) = longer known a ++ longer known b from List.flatMap_append, rounds_app known n]
    rfl
theorem rounds_nil (known : List Nat) : ∀ n, rounds known n [] = []
  | 0 => rfl
  | n + 1 => rounds_nil known n
theorem rounds_map (known : List Nat) (n : Nat) (g : Nat → List Nat) : ∀ cs : List Nat, rounds known n (cs.map g) = cs.flatMap fun c => rounds known n [g c]
  | [] => rounds_nil known n
  | c :: cs => by
    rw [List.map_cons, show g c :: cs.map g = [g c] ++ cs.map g from rfl, rounds_app, rounds_map known n g cs]
    rfl
theorem rounds_cont (known : List Nat) : ∀ (n : Nat) (p : List Nat), rounds known n [p] = (cont known n p).map fun t => p ++ t
  | 0, p => by simp [rounds, cont]
  | n + 1, p => by
    show rounds known n (longer known [p]) = _
    have e : longer known [p] = (known.filter fun c => !decide (c ∈ p)).map fun c => p ++ [c] := by simp [longer]
    rw [e, rounds_map, cont, List.map_flatMap]
    congr 1
    funext c
    rw [rounds_cont known n (p ++ [c]), List.map_map]
    congr 1
    funext t
    simp
theorem strict_ext : ∀ {a b : List Nat}, a.Pairwise (· < ·) → b.Pairwise (· < ·) → (∀ x, x ∈ a ↔ x ∈ b) → a = b
  | [], [], _, _, _ => rfl
  | [], y :: b, _, _, h => by have := (h y).mpr (by simp); simp at this
  | x :: a, [], _, _, h => by have := (h x).mp (by simp); simp at this
  | x :: a, y :: b, ha, hb, h => by
    obtain ⟨a1, a2⟩ := List.pairwise_cons.mp ha
    obtain ⟨b1, b2⟩ := List.pairwise_cons.mp hb
    have e : x = y := by
      rcases List.mem_cons.mp ((h x).mp (by simp)) with e | e
      · exact e
      · rcases List.mem_cons.mp ((h y).mpr (by simp)) with e' | e'
        · exact e'.symm
        · have := a1 y e'; have := b1 x e; omega
    subst e
    rw [strict_ext a2 b2 fun z => ⟨fun hz => ?_, fun hz => ?_⟩]
    · rcases List.mem_cons.mp ((h z).mp (by simp [hz])) with e | e
      · have := a1 z hz; omega
      · exact e
    · rcases List.mem_cons.mp ((h z).mpr (by simp [hz])) with e | e
      · have := b1 z hz; omega
      · exact e
def frs : Nat → Lanes → List (List Nat)
  | 0, _ => [[]]
  | n + 1, L => (frees L).flatMap fun c => (frs n (rm L c)).map fun t => c :: t
theorem flatMap_if {α β : Type} (p : α → Bool) (g : α → List β) : ∀ l : List α, (l.flatMap fun x => if p x = true then g x else []) = (l.filter p).flatMap g
  | [] => rfl
  | x :: l => by
    rw [List.flatMap_cons, flatMap_if p g l, List.filter_cons]
    split
    · rw [List.flatMap_cons]
    · rfl
theorem cont_free {r : Nat} {known : List Nat} (hk : known.Pairwise (· < ·)) : ∀ (n : Nat) {L : Lanes} {p : List Nat}, Ok r L → L.flatten.length = n → (∀ c, (c ∈ known ∧ c ∉ p) ↔ c ∈ L.flatten) → (cont known n p).filter (frB L) = frs n L
  | 0, L, p, o, hn, h => rfl
  | n + 1, L, p, o, hn, h => by
    rw [cont, List.filter_flatMap, frs]
    have ef : frees L = (known.filter fun c => !decide (c ∈ p)).filter fun c => decide (bef L c = []) := by
      refine strict_ext (frees_strict o) ((hk.filter _).filter _) fun x => ?_
      rw [mem_frees' o, List.mem_filter, List.mem_filter, ← h x]
      simp
    rw [ef, ← flatMap_if (fun c => decide (bef L c = [])) (fun c => (frs n (rm L c)).map fun t => c :: t)]
    have key : ∀ c ∈ (known.filter fun c => !decide (c ∈ p)), ((cont known n (p ++ [c])).map fun t => c :: t).filter (frB L) = if decide (bef L c = []) = true then (frs n (rm L c)).map fun t => c :: t else [] := by
      intro c hc
      have hc' : c ∈ L.flatten := (h c).1 (by
        obtain ⟨h1, h2⟩ := List.mem_filter.1 hc
        exact ⟨h1, by simpa using h2⟩)
      rw [List.filter_map]
      by_cases hb : bef L c = []
      · have t : Tp L c := (tp_iff o).1 ((mem_frees' o).2 ⟨hc', hb⟩)
        rw [if_pos (by simpa using hb)]
        have e : (frB L ∘ fun t => c :: t) = frB (rm L c) := by
          funext s
          simp [Function.comp, frB, hb]
        rw [e, cont_free hk n (o.rm t) (by have := rm_tot t; omega) fun x => ?_]
        rw [mem_rm o t, ← h x]
        simp only [List.mem_append, List.mem_singleton, not_or]
        constructor
        · rintro ⟨a, b, d⟩; exact ⟨⟨a, b⟩, d⟩
        · rintro ⟨⟨a, b⟩, d⟩; exact ⟨a, b, d⟩
      · rw [if_neg (by simpa using hb)]
        have e : (frB L ∘ fun t => c :: t) = fun _ => false := by
          funext s
          simp [Function.comp, frB, hb]
        rw [e]
        simp
    generalize (known.filter fun c => !decide (c ∈ p)) = ks at key
    clear ef
    induction ks with
    | nil => rfl
    | cons c ks ih =>
      rw [List.flatMap_cons, List.flatMap_cons, key c (by simp), ih fun x hx => key x (by simp [hx])]
theorem pick_flat {α : Type} (w : Nat → Nat) (g : Nat → Nat → α) (z : α) : ∀ cs : List Nat, ((List.range (cs.map w).sum).map fun d => match pick w cs d with | some (c, e) => g c e | none => z) = cs.flatMap fun c => (List.range (w c)).map (g c)
  | [] => rfl
  | c :: cs => by
    rw [List.map_cons, List.sum_cons, List.range_add, List.map_append, List.flatMap_cons, ← pick_flat w g z cs, List.map_map]
    congr 1
    · refine List.map_congr_left fun d hd => ?_
      have : d < w c := by simpa using hd
      unfold pick
      rw [if_pos this]
    · refine List.map_congr_left fun d hd => ?_
      show (match pick w (c :: cs) (w c + d) with | some (c, e) => g c e | none => z) = _
      have e : pick w (c :: cs) (w c + d) = if w c + d < w c then some (c, w c + d) else pick w cs (w c + d - w c) := rfl
      rw [e, if_neg (by omega), show w c + d - w c = d from by omega]
theorem frs_at {r : Nat} : ∀ (n : Nat) {L : Lanes}, Ok r L → L.flatten.length = n → frs n L = (List.range (cnt L)).map (at_ n L)
  | 0, L, o, hn => by
    rw [at_zero hn]
    rfl
  | n + 1, L, o, hn => by
    have hne : L.flatten ≠ [] := fun e => by rw [e] at hn; simp at hn
    rw [frs, ← cnt_rec o hne]
    have := pick_flat (fun c => cnt (rm L c)) (fun c e => c :: at_ n (rm L c) e) [] (frees L)
    have e1 : (fun d => match pick (fun c => cnt (rm L c)) (frees L) d with | some (c, e) => c :: at_ n (rm L c) e | none => []) = at_ (n + 1) L := by
      funext d
      show _ = (match pick (fun c => cnt (rm L c)) (frees L) d with | none => [] | some (c, e) => c :: at_ n (rm L c) e)
      cases pick (fun c => cnt (rm L c)) (frees L) d <;> rfl
    rw [e1] at this
    rw [this]
    have key : ∀ c ∈ frees L, (frs n (rm L c)).map (fun t => c :: t) = (List.range (cnt (rm L c))).map (fun e => c :: at_ n (rm L c) e) := fun c hc => by
      have t := (tp_iff o).1 hc
      rw [frs_at n (o.rm t) (by have := rm_tot t; omega), List.map_map]
      rfl
    generalize frees L = ks at key
    clear this
    induction ks with
    | nil => rfl
    | cons c ks ih => rw [List.flatMap_cons, List.flatMap_cons, key c (by simp), ih fun x hx => key x (by simp [hx])]
/-- all orders of the cars -/
def ords (known : List Nat) : List (List Nat) := rounds known known.length [[]]
theorem ords_cont (known : List Nat) : ords known = cont known known.length [] := by
  unfold ords
  rw [rounds_cont]
  simp
theorem ords_free {r : Nat} {L : Lanes} (o : Ok r L) : (ords (srt L.flatten)).filter (frB L) = (List.range (cnt L)).map (at_ L.flatten.length L) := by
  have hl := (srt_perm L.flatten).length_eq
  rw [ords_cont, hl, cont_free (srt_strict o.nd) L.flatten.length o rfl (fun c => by simp [mem_srt]), frs_at _ o rfl]
theorem filter_more (known p : List Nat) (c : Nat) : (known.filter fun x => !decide (x ∈ p ++ [c])) = (known.filter fun x => !decide (x ∈ p)).filter (· != c) := by
  rw [List.filter_filter]
  congr 1
  funext x
  by_cases h1 : x ∈ p <;> by_cases h2 : x = c <;> simp [h1, h2]
theorem perm_out {l : List Nat} (nd : l.Nodup) {c : Nat} (hc : c ∈ l) : (c :: l.filter (· != c)).Perm l := by
  have h1 : (c :: l.erase c).Perm l := (List.perm_cons_erase hc).symm
  rw [nd.erase_eq_filter] at h1
  exact h1
theorem cont_perm {known : List Nat} (nd : known.Nodup) : ∀ (n : Nat) {p t : List Nat}, (known.filter fun c => !decide (c ∈ p)).length = n → t ∈ cont known n p → t.Perm (known.filter fun c => !decide (c ∈ p))
  | 0, p, t, hn, h => by
    have : t = [] := by simpa [cont] using h
    rw [this, List.length_eq_zero_iff.1 hn]
  | n + 1, p, t, hn, h => by
    rw [cont, List.mem_flatMap] at h
    obtain ⟨c, hc, h⟩ := h
    obtain ⟨t', ht', rfl⟩ := List.mem_map.1 h
    have pm := perm_out (nd.filter _) hc
    have hl := pm.length_eq
    have e := filter_more known p c
    have ih := cont_perm nd n (p := p ++ [c]) (t := t') (by rw [e]; rw [List.length_cons, hn] at hl; omega) ht'
    rw [e] at ih
    exact (ih.cons c).trans pm
theorem ords_perm {l : List Nat} (nd : l.Nodup) {s : List Nat} (h : s ∈ ords (srt l)) : s.Perm l := by
  have nd' : (srt l).Nodup := (srt_perm l).nodup_iff.2 nd
  rw [ords_cont] at h
  have e : ((srt l).filter fun c => !decide (c ∈ ([] : List Nat))) = srt l := by simp
  have := cont_perm nd' (srt l).length (p := []) (t := s) (by rw [e]) h
  rw [e] at this
  exact this.trans (srt_perm l)
theorem longer_len (known : List Nat) : ∀ fs : List (List Nat), (longer known fs).length ≤ fs.length * known.length
  | [] => by simp [longer]
  | p :: fs => by
    have ih := longer_len known fs
    have e : longer known (p :: fs) = ((known.filter fun c => !decide (c ∈ p)).map fun c => p ++ [c]) ++ longer known fs := by simp [longer]
    rw [e, List.length_append, List.length_map, List.length_cons, Nat.add_mul]
    have := List.length_filter_le (fun c => !decide (c ∈ p)) known
    omega
theorem mem_longer {known : List Nat} {fs : List (List Nat)} {q : List Nat} (h : q ∈ longer known fs) : ∃ p ∈ fs, ∃ c, q = p ++ [c] := by
  obtain ⟨p, hp, h⟩ := List.mem_flatMap.1 h
  obtain ⟨c, _, rfl⟩ := List.mem_map.1 h
  exact ⟨p, hp, c, rfl⟩
end CY

namespace CY
open CL
/-! ### loops by an invariant; texts in lists -/
theorem forL_inv {gi : D → DEnv → R DEnv} {b : DEnv → Out} (P : DEnv → Prop) : ∀ {ds : List D} {δ : DEnv}, (∀ d ∈ ds, ∀ δ, P δ → ∃ δ1 δ2, gi d δ = .ok δ1 ∧ b δ1 = .nxt δ2 ∧ P δ2) → P δ → ∃ δ', forL gi b ds δ = .nxt δ' ∧ P δ'
  | [], δ, _, p => ⟨δ, rfl, p⟩
  | d :: ds, δ, h, p => by
    obtain ⟨δ1, δ2, e1, e2, p2⟩ := h d (by simp) δ p
    obtain ⟨δ', e, p'⟩ := forL_inv P (ds := ds) (δ := δ2) (fun d hd => h d (by simp [hd])) p2
    refine ⟨δ', ?_, p'⟩
    unfold forL
    rw [e1]
    simp only [e2]
    exact e
theorem plains_str : ∀ l : List (List Nat), D.plains (l.map D.str) = true
  | [] => rfl
  | x :: l => by rw [List.map_cons]; simp only [D.plains, plains_str l, D.plain, Bool.and_true]
theorem deps_str : ∀ l : List (List Nat), D.deps (l.map D.str) = 0
  | [] => rfl
  | x :: l => by rw [List.map_cons]; simp only [D.deps, deps_str l, D.dep, Nat.max_self]
theorem eqvs_str : ∀ l : List (List Nat), D.eqvs (l.map D.str) (l.map D.str) = true
  | [] => rfl
  | x :: l => by rw [List.map_cons]; simp only [D.eqvs, eqvs_str l, D.eqv, beq_self_eq_true, Bool.and_true]
theorem neStrs (l : List (List Nat)) : D.ne (.lst (l.map D.str)) (.lst (l.map D.str)) = .ok (.bl false) := by
  unfold D.ne
  have hp : D.plain (.lst (l.map D.str)) = true := plains_str l
  have hd : D.dep (.lst (l.map D.str)) = 1 := by simp [D.dep, deps_str l]
  rw [hp, hd]
  simp [D.eqv, eqvs_str l]
theorem isinStrs (s : List Nat) (l : List (List Nat)) : D.isin (.str s) (.lst (l.map D.str)) = .ok (.bl (decide (s ∈ l))) := by
  have e : D.isin (.str s) (.lst (l.map D.str)) = if (D.str s).plain && D.plains (l.map D.str) && decide ((D.str s).dep ≤ 60) then .ok (.bl ((l.map D.str).any fun z => z.eqv (.str s))) else .bad := by
    rcases s with _ | ⟨a, _ | ⟨b, t⟩⟩ <;> rfl
  rw [e, plains_str]
  have e2 : ((l.map D.str).any fun z => z.eqv (.str s)) = decide (s ∈ l) := by
    rw [List.any_map]
    clear e
    induction l with
    | nil => simp
    | cons x l ih =>
      rw [List.any_cons, ih]
      by_cases h : x = s
      · subst h; simp [Function.comp, D.eqv]
      · have h' : ¬ s = x := fun z => h z.symm
        simp [Function.comp, D.eqv, h, h']
  rw [e2]
  simp [D.plain, D.dep]
theorem isnBB (a b : Bool) : D.isnot (.bl a) (.bl b) = .ok (.bl (a != b)) := id rfl
theorem isBB (a b : Bool) : D.is_ (.bl a) (.bl b) = .ok (.bl (a == b)) := id rfl
@[simp] theorem ev_ifRet {ft : DEnv → R Bool} {ga gu : DEnv → Out} {δ : DEnv} : ifRet ft ga gu δ = inT δ (ft δ) fun b => if b then (match ga δ with | .nxt _ => .bad | o => o) else gu δ := id rfl
end CY

namespace CY
open CL
/-! ### all yards that moves lead to, with the least numbers of moves -/
theorem Good.unsnoc {r : Nat} : ∀ {q : Path} {L x : Lanes} {m : Nat × Nat}, Good r L (q ++ [m]) x → ∃ y, Good r L q y ∧ Mv r y m ∧ x = dm y m
  | [], L, x, m, h => by
    obtain ⟨h1, h2⟩ := (show Mv r L m ∧ dm L m = x from h)
    exact ⟨L, rfl, h1, h2.symm⟩
  | m' :: q, L, x, m, h => by
    obtain ⟨h1, h2⟩ := (show Mv r L m' ∧ Good r (dm L m') (q ++ [m]) x from h)
    obtain ⟨y, g, a, b⟩ := Good.unsnoc h2
    exact ⟨y, ⟨h1, g⟩, a, b⟩
def keysF (fd : List (Lanes × Nat)) : List Lanes := fd.map (·.1)
def addC (k : Nat) (fd : List (Lanes × Nat)) (c : Lanes) : List (Lanes × Nat) := if c ∈ keysF fd then fd else fd ++ [(c, k)]
theorem addC_fold (k : Nat) : ∀ (cs : List Lanes) (fd : List (Lanes × Nat)), (keysF fd).Nodup → ∃ ex : List (Lanes × Nat), cs.foldl (addC k) fd = fd ++ ex ∧ (keysF (fd ++ ex)).Nodup ∧ (∀ e ∈ ex, e.2 = k ∧ e.1 ∈ cs) ∧ ∀ c ∈ cs, c ∈ keysF (fd ++ ex)
  | [], fd, nd => ⟨[], by simp, by simpa using nd, by simp, by simp⟩
  | c :: cs, fd, nd => by
    rw [List.foldl_cons]
    by_cases h : c ∈ keysF fd
    · have e : addC k fd c = fd := by unfold addC; rw [if_pos h]
      rw [e]
      obtain ⟨ex, h1, h2, h3, h4⟩ := addC_fold k cs fd nd
      refine ⟨ex, h1, h2, fun e he => ⟨(h3 e he).1, by simp [(h3 e he).2]⟩, fun x hx => ?_⟩
      rcases List.mem_cons.1 hx with z | z
      · rw [z]; unfold keysF at h ⊢; rw [List.map_append]; exact List.mem_append.2 (.inl h)
      · exact h4 x z
    · have e : addC k fd c = fd ++ [(c, k)] := by unfold addC; rw [if_neg h]
      rw [e]
      have nd' : (keysF (fd ++ [(c, k)])).Nodup := by
        unfold keysF at nd h ⊢
        rw [List.map_append, List.nodup_append]
        refine ⟨nd, by simp, fun a ha b hb => ?_⟩
        simp at hb
        rintro rfl
        exact h (by rw [← hb]; exact ha)
      obtain ⟨ex, h1, h2, h3, h4⟩ := addC_fold k cs (fd ++ [(c, k)]) nd'
      refine ⟨(c, k) :: ex, by rw [h1]; simp, by simpa using h2, fun e he => ?_, fun x hx => ?_⟩
      · rcases List.mem_cons.1 he with z | z
        · rw [z]; exact ⟨rfl, by simp⟩
        · exact ⟨(h3 e z).1, by simp [(h3 e z).2]⟩
      · rcases List.mem_cons.1 hx with z | z
        · rw [z]; simp [keysF]
        · have := h4 x z
          simpa using this
structure Sk (r : Nat) (L0 : Lanes) (k : Nat) (fd : List (Lanes × Nat)) : Prop where
  nd : (keysF fd).Nodup
  path : ∀ e ∈ fd, (∃ q, Good r L0 q e.1 ∧ q.length = e.2) ∧ e.2 ≤ k
  all : ∀ q x, Good r L0 q x → q.length ≤ k → ∃ v, (x, v) ∈ fd ∧ v ≤ q.length
  low : ∀ j, j < k → ∃ x, (x, j) ∈ fd
def lastF (k : Nat) (fd : List (Lanes × Nat)) : List Lanes := (fd.filter fun e => e.2 == k).map (·.1)
def candF (r : Nat) (ls : List Lanes) : List Lanes := ls.flatMap fun y => (mvs r y).map (dm y)
theorem Sk.zero {r : Nat} {L0 : Lanes} : Sk r L0 0 [(L0, 0)] := by
  refine ⟨by simp [keysF], fun e he => ?_, fun q x g hq => ?_, fun j hj => by omega⟩
  · simp at he; subst he; exact ⟨⟨[], rfl, rfl⟩, Nat.le_refl _⟩
  · have : q = [] := List.length_eq_zero_iff.1 (by omega)
    subst this
    have e : L0 = x := g
    exact ⟨0, by simp [e], Nat.le_refl _⟩
theorem Sk.step {r : Nat} {L0 : Lanes} {k : Nat} {fd : List (Lanes × Nat)} (s : Sk r L0 k fd) (hk : ∃ x, (x, k) ∈ fd) : Sk r L0 (k + 1) ((candF r (lastF k fd)).foldl (addC (k + 1)) fd) := by
  obtain ⟨ex, h1, h2, h3, h4⟩ := addC_fold (k + 1) (candF r (lastF k fd)) fd s.nd
  rw [h1]
  refine ⟨h2, fun e he => ?_, fun q x g hq => ?_, fun j hj => ?_⟩
  · rcases List.mem_append.1 he with z | z
    · obtain ⟨a, b⟩ := s.path e z
      exact ⟨a, by omega⟩
    · obtain ⟨a, b⟩ := h3 e z
      rw [a]
      refine ⟨?_, Nat.le_refl _⟩
      obtain ⟨y, hy, hm⟩ := List.mem_flatMap.1 b
      obtain ⟨m, hm, em⟩ := List.mem_map.1 hm
      obtain ⟨e', he', ey⟩ := List.mem_map.1 hy
      obtain ⟨he1, he2⟩ := List.mem_filter.1 he'
      obtain ⟨⟨q, g, hq⟩, _⟩ := s.path e' he1
      have he2 : e'.2 = k := by simpa using he2
      refine ⟨q ++ [m], ?_, by simp [hq, he2]⟩
      rw [← em, ← ey]
      exact g.snoc (mv_of.1 (by rw [ey]; exact hm))
  · by_cases hle : q.length ≤ k
    · obtain ⟨v, a, b⟩ := s.all q x g hle
      exact ⟨v, by simp [a], b⟩
    · have hlen : q.length = k + 1 := by omega
      obtain ⟨q', m, rfl⟩ : ∃ q' m, q = q' ++ [m] := by
        have hne : q ≠ [] := fun e => by rw [e] at hlen; simp at hlen
        exact ⟨q.dropLast, q.getLast hne, (List.dropLast_concat_getLast hne).symm⟩
      obtain ⟨y, g', mv, rfl⟩ := g.unsnoc
      have hl' : q'.length = k := by simpa using hlen
      obtain ⟨v, a, b⟩ := s.all q' y g' (by omega)
      by_cases hv : v = k
      · subst hv
        have hc : dm y m ∈ candF r (lastF v fd) := List.mem_flatMap.2 ⟨y, List.mem_map.2 ⟨(y, v), List.mem_filter.2 ⟨a, by simp⟩, rfl⟩, List.mem_map.2 ⟨m, mv_of.2 mv, rfl⟩⟩
        have := h4 _ hc
        obtain ⟨e, he, ee⟩ := List.mem_map.1 this
        refine ⟨e.2, by rw [← ee]; exact he, ?_⟩
        rcases List.mem_append.1 he with z | z
        · have := (s.path e z).2; omega
        · have := (h3 e z).1; omega
      · obtain ⟨⟨p, gp, hp⟩, _⟩ := s.path (y, v) a
        have hp : p.length = v := hp
        obtain ⟨v', a', b'⟩ := s.all (p ++ [m]) (dm y m) (gp.snoc mv) (by simp; omega)
        refine ⟨v', by simp [a'], ?_⟩
        simp at b' ⊢
        omega
  · by_cases hj' : j < k
    · obtain ⟨x, hx⟩ := s.low j hj'
      exact ⟨x, by simp [hx]⟩
    · have : j = k := by omega
      subst this
      obtain ⟨x, hx⟩ := hk
      exact ⟨x, by simp [hx]⟩
theorem keys_few {r : Nat} {L0 : Lanes} (o : Ok r L0) (h3 : L0.flatten.length ≤ 3) (hn : L0.length ≤ 3) {ks : List Lanes} (nd : ks.Nodup) (hg : ∀ x ∈ ks, ∃ q, Good r L0 q x) : ks.length ≤ 384 := by
  have key := nodup_leG ((prm L0.flatten).flatMap fun p => (lensN L0.length).map fun l => (p, l)) (ks.map fun L => (L.flatten, lens L)) ?_ ?_
  · rw [List.length_map] at key
    have h1 := flatMap_le (fun p => (lensN L0.length).map fun l => (p, l)) 64 (prm L0.flatten) (fun x _ => by rw [List.length_map]; exact lensN_len hn)
    have h2 := prm_len L0.flatten
    omega
  · rw [List.nodup_iff_pairwise_ne, List.pairwise_map]
    exact List.Pairwise.imp (fun hne e => hne (flat_inj (Prod.mk.inj e).2 (Prod.mk.inj e).1)) (List.nodup_iff_pairwise_ne.1 nd)
  · intro x hx
    obtain ⟨L, hL, rfl⟩ := List.mem_map.1 hx
    obtain ⟨q, g⟩ := hg L hL
    obtain ⟨o', hl, pm⟩ := g.ok o
    refine List.mem_flatMap.2 ⟨_, mem_prm pm o.nd h3, List.mem_map.2 ⟨_, mem_lensN _ (by unfold lens; rw [List.length_map, hl]) fun y hy => ?_, rfl⟩⟩
    have h8 := pm.length_eq
    obtain ⟨l, hl', rfl⟩ := List.mem_map.1 hy
    have : l.length ≤ L.flatten.length := (List.sublist_flatten_of_mem hl').length_le
    omega
theorem Sk.few {r : Nat} {L0 : Lanes} {k : Nat} {fd : List (Lanes × Nat)} (o : Ok r L0) (h3 : L0.flatten.length ≤ 3) (hn : L0.length ≤ 3) (s : Sk r L0 k fd) : fd.length ≤ 384 ∧ k ≤ 384 := by
  have h1 : fd.length ≤ 384 := by
    have := keys_few o h3 hn s.nd (fun x hx => by
      obtain ⟨e, he, rfl⟩ := List.mem_map.1 hx
      obtain ⟨⟨q, g, _⟩, _⟩ := s.path e he
      exact ⟨q, g⟩)
    unfold keysF at this
    rwa [List.length_map] at this
  refine ⟨h1, ?_⟩
  have := nodup_leG (fd.map (·.2)) (List.range k) List.nodup_range (fun j hj => by
    obtain ⟨x, hx⟩ := s.low j (by simpa using hj)
    exact List.mem_map.2 ⟨(x, j), hx, rfl⟩)
  rw [List.length_range, List.length_map] at this
  omega
/-- all of them -/
structure Sp (r : Nat) (L0 : Lanes) (fd : List (Lanes × Nat)) : Prop where
  nd : (keysF fd).Nodup
  path : ∀ e ∈ fd, ∃ q, Good r L0 q e.1 ∧ q.length = e.2
  all : ∀ q x, Good r L0 q x → ∃ v, (x, v) ∈ fd ∧ v ≤ q.length
theorem Sk.done {r : Nat} {L0 : Lanes} {k : Nat} {fd : List (Lanes × Nat)} (s : Sk r L0 k fd) (hk : ∀ e ∈ fd, e.2 < k) : Sp r L0 fd := by
  refine ⟨s.nd, fun e he => (s.path e he).1, fun q x g => ?_⟩
  generalize hn : q.length = n
  induction n generalizing q x with
  | zero => exact (by have := s.all q x g (by omega); rwa [hn] at this)
  | succ n ih =>
    by_cases hle : n + 1 ≤ k
    · have := s.all q x g (by omega)
      rwa [hn] at this
    · obtain ⟨q', m, rfl⟩ : ∃ q' m, q = q' ++ [m] := by
        have hne : q ≠ [] := fun e => by rw [e] at hn; simp at hn
        exact ⟨q.dropLast, q.getLast hne, (List.dropLast_concat_getLast hne).symm⟩
      obtain ⟨y, g', mv, rfl⟩ := g.unsnoc
      obtain ⟨v, a, b⟩ := ih q' y g' (by simpa using hn)
      obtain ⟨p, gp, hp⟩ := (s.path (y, v) a).1
      have hp : p.length = v := hp
      have hv := hk (y, v) a
      have hv : v < k := hv
      obtain ⟨v', a', b'⟩ := s.all (p ++ [m]) (dm y m) (gp.snoc mv) (by simp; omega)
      refine ⟨v', a', ?_⟩
      simp at b'
      omega
/-! ### keys -/
theorem nks_strs : ∀ L : Lanes, nks (L.map D.str) = some (L.map fun s => PySem.NestedKey.text ⟨s.toArray⟩)
  | [] => rfl
  | l :: L => by
    rw [List.map_cons]
    simp only [nks, nk, nks_strs L]
    rfl
theorem nk_yd (r : Nat) (L : Lanes) : nk (yd r L) = some (.tup [.num r, .tup (L.map fun s => PySem.NestedKey.text ⟨s.toArray⟩)]) := by
  unfold yd
  simp [nk, nks, nks_strs]
theorem texts_inj : ∀ {L M : Lanes}, (L.map fun s => PySem.NestedKey.text ⟨s.toArray⟩) = (M.map fun s => PySem.NestedKey.text ⟨s.toArray⟩) → L = M
  | [], [], _ => rfl
  | [], _ :: _, h => by simp at h
  | _ :: _, [], h => by simp at h
  | l :: L, m :: M, h => by
    simp only [List.map_cons, List.cons.injEq] at h
    obtain ⟨h1, h2⟩ := h
    rw [texts_inj h2]
    injection h1 with h1
    injection h1 with h1
    rw [show l = m from by simpa using congrArg Array.toList h1]
theorem nk_yd_iff {r r' : Nat} {L L' : Lanes} : nk (yd r L) = nk (yd r' L') ↔ r = r' ∧ L = L' := by
  rw [nk_yd, nk_yd]
  constructor
  · intro h
    injection h with h
    injection h with h
    simp only [List.cons.injEq, and_true] at h
    obtain ⟨h1, h2⟩ := h
    injection h1 with h1
    injection h2 with h2
    exact ⟨by omega, texts_inj h2⟩
  · rintro ⟨rfl, rfl⟩; rfl
theorem depth_texts : ∀ L : Lanes, PySem.NestedKey.depthAll (L.map fun s => PySem.NestedKey.text ⟨s.toArray⟩) = 0
  | [] => rfl
  | l :: L => by
    rw [List.map_cons]
    simp only [PySem.NestedKey.depthAll, PySem.NestedKey.depth, depth_texts L, Nat.max_self]
theorem okKey_yd (r : Nat) (L : Lanes) : okKey (yd r L) = true := by
  unfold okKey
  rw [nk_yd]
  simp [PySem.NestedKey.depth, PySem.NestedKey.depthAll, depth_texts]
def fdD (r : Nat) (fd : List (Lanes × Nat)) : List (D × D) := fd.map fun e => (yd r e.1, D.int e.2)
theorem dget_none {r : Nat} {x : Lanes} : ∀ {fd : List (Lanes × Nat)}, x ∉ keysF fd → dget (fdD r fd) (yd r x) = none
  | [], _ => rfl
  | e :: fd, h => by
    have h1 : ¬ e.1 = x := fun z => h (by simp [keysF, z])
    have h2 : x ∉ keysF fd := fun z => h (by simp only [keysF, List.map_cons, List.mem_cons]; exact .inr z)
    have ih := dget_none (r := r) h2
    unfold dget fdD at ih ⊢
    rw [List.map_cons, List.find?_cons]
    have : decide (nk (yd r e.1) = nk (yd r x)) = false := decide_eq_false fun z => h1 (nk_yd_iff.1 z).2
    rw [this]
    exact ih
theorem dget_some {r : Nat} {x : Lanes} {v : Nat} : ∀ {fd : List (Lanes × Nat)}, (keysF fd).Nodup → (x, v) ∈ fd → dget (fdD r fd) (yd r x) = some (.int v)
  | [], _, h => by simp at h
  | e :: fd, nd, h => by
    unfold keysF at nd
    rw [List.map_cons, List.nodup_cons] at nd
    by_cases h1 : e.1 = x
    · have : e = (x, v) := by
        rcases List.mem_cons.1 h with z | z
        · exact z.symm
        · exact absurd (List.mem_map.2 ⟨(x, v), z, rfl⟩) (by rw [← h1]; exact nd.1)
      unfold dget fdD
      rw [List.map_cons, List.find?_cons]
      have : decide (nk (yd r e.1) = nk (yd r x)) = true := decide_eq_true (nk_yd_iff.2 ⟨rfl, h1⟩)
      simp [this, *]
    · have h2 : (x, v) ∈ fd := by
        rcases List.mem_cons.1 h with z | z
        · exact absurd (by rw [← z]) h1
        · exact z
      have ih := dget_some (r := r) nd.2 h2
      unfold dget fdD at ih ⊢
      rw [List.map_cons, List.find?_cons]
      have : decide (nk (yd r e.1) = nk (yd r x)) = false := decide_eq_false fun z => h1 (nk_yd_iff.1 z).2
      rw [this]
      exact ih
theorem any_keys {r : Nat} {x : Lanes} : ∀ fd : List (Lanes × Nat), ((fdD r fd).any fun p => decide (nk p.1 = nk (yd r x))) = decide (x ∈ keysF fd)
  | [] => rfl
  | e :: fd => by
    have ih := any_keys (r := r) (x := x) fd
    unfold fdD at ih ⊢
    rw [List.map_cons, List.any_cons, ih]
    by_cases h : e.1 = x
    · simp [keysF, nk_yd_iff, h]
    · have h' : ¬ x = e.1 := fun z => h z.symm
      have h1 : decide (nk (yd r e.1) = nk (yd r x)) = false := decide_eq_false fun z => h (nk_yd_iff.1 z).2
      rw [h1, Bool.false_or]
      unfold keysF
      rw [List.map_cons]
      simp only [List.mem_cons, h', false_or]
/-- the store of the lesser number -/
theorem dput_add {r : Nat} {x : Lanes} {k : Nat} {fd : List (Lanes × Nat)} (nd : (keysF fd).Nodup) (hv : ∀ e ∈ fd, e.2 ≤ k) : ∃ v : Nat, D.min2 [(dget (fdD r fd) (yd r x)).getD (.int k), .int k] = .ok (.int v) ∧ dput (fdD r fd) (yd r x) (.int v) = fdD r (addC k fd x) := by
  by_cases h : x ∈ keysF fd
  · obtain ⟨e, he, ex⟩ := List.mem_map.1 h
    obtain ⟨y, v⟩ := e
    have ex : y = x := ex
    subst ex
    have h1 := dget_some (r := r) nd he
    have h2 := hv _ he
    refine ⟨v, ?_, ?_⟩
    · rw [h1]
      have h2 : v ≤ k := h2
      unfold D.min2
      simp
      omega
    · unfold dput addC
      rw [any_keys, if_pos (by simpa using h), if_pos h]
      unfold fdD
      rw [List.map_map]
      refine List.map_congr_left fun e' he' => ?_
      show (if nk (yd r e'.1) = nk (yd r y) then (yd r e'.1, D.int v) else (yd r e'.1, D.int e'.2)) = _
      split
      · rename_i hk
        have e1 : e'.1 = y := (nk_yd_iff.1 hk).2
        have h3 := dget_some (r := r) (x := y) (v := e'.2) nd (by rw [← e1]; exact he')
        rw [h1] at h3
        injection h3 with h3
        rw [h3]
      · rfl
  · refine ⟨k, ?_, ?_⟩
    · rw [dget_none h]
      unfold D.min2
      simp
    · unfold dput addC
      rw [any_keys, if_neg (by simpa using h), if_neg h]
      simp [fdD]
end CY

namespace CY
open CL
theorem foldMax : ∀ (xs : List Int) (x : Int), ∃ m, (xs.map D.int).foldl (fun a y => if ltD a y then y else a) (D.int x) = D.int m ∧ m ∈ x :: xs ∧ ∀ z ∈ x :: xs, z ≤ m
  | [], x => ⟨x, rfl, by simp, by simp⟩
  | y :: xs, x => by
    rw [List.map_cons, List.foldl_cons, ltD_int]
    by_cases h : x < y
    · rw [if_pos (by simpa using h)]
      obtain ⟨m, e, h1, h2⟩ := foldMax xs y
      refine ⟨m, e, by simp only [List.mem_cons] at h1 ⊢; exact .inr h1, fun z hz => ?_⟩
      rcases List.mem_cons.1 hz with q | q
      · have := h2 y (by simp); omega
      · exact h2 z q
    · rw [if_neg (by simpa using h)]
      obtain ⟨m, e, h1, h2⟩ := foldMax xs x
      refine ⟨m, e, ?_, fun z hz => ?_⟩
      · rcases List.mem_cons.1 h1 with q | q
        · simp [q]
        · simp [q]
      · rcases List.mem_cons.1 hz with q | q
        · rw [q]; exact h2 x (by simp)
        · rcases List.mem_cons.1 q with q | q
          · have := h2 x (by simp); omega
          · exact h2 z (by simp [q])
theorem ev_maxInt (x : Int) (xs : List Int) : ∃ m, D.maxG [.lst ((x :: xs).map D.int)] = .ok (.int m) ∧ m ∈ x :: xs ∧ ∀ z ∈ x :: xs, z ≤ m := by
  obtain ⟨m, e, h1, h2⟩ := foldMax xs x
  refine ⟨m, ?_, h1, h2⟩
  have ho := ord_map D.int (x :: xs) (fun a _ b _ => by simp [D.py, PySem.W.alike]) (fun a => by simp) (fun a => rfl) 0 (by decide) fun a => by simp [D.dep]
  show (if ordB ((x :: xs).map D.int) = true then R.ok ((xs.map D.int).foldl (fun a y => if ltD a y then y else a) (D.int x)) else .bad) = _
  rw [if_pos ho, e]
theorem addC_nd {k : Nat} {fd : List (Lanes × Nat)} {c : Lanes} (nd : (keysF fd).Nodup) : (keysF (addC k fd c)).Nodup := by
  obtain ⟨ex, h1, h2, _⟩ := addC_fold k [c] fd nd
  have : addC k fd c = fd ++ ex := h1
  rw [this]; exact h2
theorem addC_le {k : Nat} {fd : List (Lanes × Nat)} {c : Lanes} (h : ∀ e ∈ fd, e.2 ≤ k) : ∀ e ∈ addC k fd c, e.2 ≤ k := by
  intro e he
  unfold addC at he
  split at he
  · exact h e he
  · rcases List.mem_append.1 he with z | z
    · exact h e z
    · simp at z; rw [z]; exact Nat.le_refl _
theorem addC_len (k : Nat) (fd : List (Lanes × Nat)) (c : Lanes) : (addC k fd c).length ≤ fd.length + 1 := by
  unfold addC
  split <;> simp
theorem fold_nd {k : Nat} : ∀ (cs : List Lanes) {fd : List (Lanes × Nat)}, (keysF fd).Nodup → (∀ e ∈ fd, e.2 ≤ k) → (keysF (cs.foldl (addC k) fd)).Nodup ∧ (∀ e ∈ cs.foldl (addC k) fd, e.2 ≤ k) ∧ (cs.foldl (addC k) fd).length ≤ fd.length + cs.length
  | [], fd, h1, h2 => ⟨h1, h2, by simp⟩
  | c :: cs, fd, h1, h2 => by
    obtain ⟨a, b, d⟩ := fold_nd cs (addC_nd (k := k) (c := c) h1) (addC_le (c := c) h2)
    have := addC_len k fd c
    exact ⟨a, b, by rw [List.foldl_cons, List.length_cons]; omega⟩
theorem getG2 (kds : List (D × D)) (r : Nat) (x : Lanes) (j : Int) : D.getG (.dct kds) [yd r x, .int j] = .ok ((dget kds (yd r x)).getD (.int j)) := by
  have h := okKey_yd r x
  unfold yd at h ⊢
  simp only [D.getG, h, if_true]
theorem getG1 (kds : List (D × D)) (r : Nat) (x : Lanes) : D.getG (.dct kds) [yd r x] = .ok ((dget kds (yd r x)).getD .non) := by
  have h := okKey_yd r x
  unfold yd at h ⊢
  simp only [D.getG, h, if_true]
theorem ixDy {kds : List (D × D)} {r : Nat} {x : Lanes} {v : D} (h : dget kds (yd r x) = some v) : D.ixD (.dct kds) (yd r x) = .ok v := by
  have hk := okKey_yd r x
  unfold yd at hk h ⊢
  simp only [D.ixD, hk, if_true, h]
theorem ev_itemD {f g : DEnv → R D} {δ : DEnv} {i : Nat} {l : List (D × D)} {z : Int} {r : Nat} {x : Lanes} (h1 : δ[i]? = some (some (.dct l))) (h2 : f δ = .ok (.int z)) (h3 : g δ = .ok (yd r x)) (h4 : l.length ≤ 16777216) : itemD i f g δ = .nxt (δ.set i (some (.dct (dput l (yd r x) (.int z))))) := by
  have hk := okKey_yd r x
  unfold itemD
  rw [h1]
  simp only [h2, h3, ev_inS]
  unfold yd at hk ⊢
  simp only [hk, lim, h4, and_self, if_true]
@[simp] theorem ev_methD {k : D → List D → R D} {f : DEnv → R D} {fs : DEnv → R (List D)} {δ : DEnv} : methD k f fs δ = (f δ).bind fun a => match a with | .dct l => (fs δ).bind fun ds => (match k (.dct l) ds with | .ok d => R.ok d | _ => .bad) | _ => .bad := id rfl
@[simp] theorem ev_dvals {f : DEnv → R D} {δ : DEnv} : dvals f δ = (f δ).bind fun d => match d with | .dct l => if l.length ≤ 16777216 then R.ok (.lst (l.map (·.2))) else .bad | _ => .bad := id rfl
theorem cand_len {r : Nat} (ls : List Lanes) (h : ∀ y ∈ ls, y.length ≤ 4) : (candF r ls).length ≤ ls.length * 16 := flatMap_le _ 16 ls fun y hy => by
  rw [List.length_map]
  have h1 := prs_len (h y hy)
  have h2 := List.length_filter_le (psb r y) (prs y.length)
  unfold mvs
  omega
theorem dispY (r : Nat) (L : Lanes) {f g : DEnv → R D} {δ : DEnv} {z : Int} (h1 : f δ = .ok (yd r L)) (h2 : g δ = .ok (.int z)) : dispV f g δ = .ok (.dct [(yd r L, .int z)]) := by
  have hk := okKey_yd r L
  unfold dispV
  rw [h1, h2]
  unfold yd at hk ⊢
  simp only [R.ok_bind, hk, if_true]
/-- the least number of moves, as the law asks -/
def Dist (r : Nat) (L x : Lanes) (v : Nat) : Prop := (∃ q, Good r L q x ∧ q.length = v) ∧ ∀ q, Good r L q x → v ≤ q.length
theorem Sp.dist {r : Nat} {L x : Lanes} {fd : List (Lanes × Nat)} (s : Sp r L fd) {v : Nat} (h : (x, v) ∈ fd) : Dist r L x v := by
  refine ⟨s.path _ h, fun q g => ?_⟩
  obtain ⟨v', h', hv⟩ := s.all q x g
  have h1 := dget_some (r := r) s.nd h
  have h2 := dget_some (r := r) s.nd h'
  rw [h1] at h2
  injection h2 with h2
  injection h2 with h2
  omega
theorem Dist.uniq {r : Nat} {L x : Lanes} {v v' : Nat} (h : Dist r L x v) (h' : Dist r L x v') : v = v' := by
  obtain ⟨⟨q, g, e⟩, m⟩ := h
  obtain ⟨⟨q', g', e'⟩, m'⟩ := h'
  have := m q' g'
  have := m' q g
  omega
theorem Sp.get {r : Nat} {L x : Lanes} {fd : List (Lanes × Nat)} (s : Sp r L fd) {v : Nat} (h : Dist r L x v) : dget (fdD r fd) (yd r x) = some (.int v) := by
  obtain ⟨⟨q, g, e⟩, m⟩ := h
  obtain ⟨v', h', hv⟩ := s.all q x g
  have := (s.dist h').uniq ⟨⟨q, g, e⟩, m⟩
  subst this
  exact dget_some s.nd h'
theorem Sp.none {r : Nat} {L x : Lanes} {fd : List (Lanes × Nat)} (s : Sp r L fd) (h : ∀ q, ¬ Good r L q x) : dget (fdD r fd) (yd r x) = none := by
  refine dget_none fun hx => ?_
  obtain ⟨e, he, rfl⟩ := List.mem_map.1 hx
  obtain ⟨q, g, _⟩ := s.path e he
  exact h q g
end CY

namespace CY
open CL
theorem forL_invN {gi : D → DEnv → R DEnv} {b : DEnv → Out} (P : Nat → DEnv → Prop) : ∀ {ds : List D} {k : Nat} {δ : DEnv}, (∀ d ∈ ds, ∀ k δ, P k δ → ∃ δ1 δ2, gi d δ = .ok δ1 ∧ b δ1 = .nxt δ2 ∧ P (k + 1) δ2) → P k δ → ∃ δ', forL gi b ds δ = .nxt δ' ∧ P (k + ds.length) δ'
  | [], k, δ, _, p => ⟨δ, rfl, p⟩
  | d :: ds, k, δ, h, p => by
    obtain ⟨δ1, δ2, e1, e2, p2⟩ := h d (by simp) k δ p
    obtain ⟨δ', e, p'⟩ := forL_invN P (ds := ds) (k := k + 1) (δ := δ2) (fun d hd => h d (by simp [hd])) p2
    refine ⟨δ', ?_, by rw [List.length_cons, show k + (ds.length + 1) = k + 1 + ds.length from by omega]; exact p'⟩
    unfold forL
    rw [e1]
    simp only [e2]
    exact e
/-- some moves one after the other, or nothing -/
def goM (r : Nat) : Lanes → Path → Option Lanes
  | L, [] => some L
  | L, m :: ms => if m ∈ mvs r L then goM r (dm L m) ms else none
theorem goM_snoc {r : Nat} {m : Nat × Nat} : ∀ (ms : Path) {L : Lanes}, goM r L (ms ++ [m]) = (goM r L ms).bind fun x => if m ∈ mvs r x then some (dm x m) else none
  | [], L => by simp [goM]
  | a :: ms, L => by
    rw [List.cons_append, goM, goM]
    split
    · exact goM_snoc ms
    · rfl
theorem goM_ok {r : Nat} : ∀ {ms : Path} {L x : Lanes}, Ok r L → goM r L ms = some x → Ok r x ∧ x.length = L.length
  | [], L, x, o, h => by simp [goM] at h; subst h; exact ⟨o, rfl⟩
  | m :: ms, L, x, o, h => by
    rw [goM] at h
    split at h
    · rename_i hm
      obtain ⟨a, b⟩ := goM_ok (o.dm (mv_of.1 hm)) h
      exact ⟨a, by rw [b, dm_len]⟩
    · cases h
theorem filter_one {α : Type} [DecidableEq α] {a : α} : ∀ {l : List α}, l.Nodup → l.filter (fun x => decide (x = a)) = if a ∈ l then [a] else []
  | [], _ => by simp
  | x :: l, nd => by
    obtain ⟨h1, h2⟩ := List.nodup_cons.1 nd
    rw [List.filter_cons, filter_one h2]
    by_cases h : x = a
    · subst h
      simp [h1]
    · have h' : ¬ a = x := fun z => h z.symm
      simp [h, h']
theorem mvs_nodup {r : Nat} {L : Lanes} (h : L.length ≤ 4) : (mvs r L).Nodup := by
  rw [List.nodup_iff_pairwise_ne]
  exact (mvs_sorted h).imp fun h => mLt_ne h
theorem nxt_one {r : Nat} {L : Lanes} (h : L.length ≤ 4) (m : Nat × Nat) : ((nxt r L).filter fun x => decide (x.1 = m)).map (·.2) = if m ∈ mvs r L then [dm L m] else [] := by
  unfold nxt
  rw [List.filter_map, List.map_map]
  have e : ((fun x : (Nat × Nat) × Lanes => decide (x.1 = m)) ∘ fun m => (m, dm L m)) = fun x => decide (x = m) := rfl
  rw [e, filter_one (mvs_nodup h)]
  split <;> rfl
theorem eqMv (a b : Nat × Nat) : D.eq (mvD a) (mvD b) = .ok (.bl (decide (a = b))) := by
  unfold D.eq mvD
  have : (D.eqv (.tup [.int a.1, .int a.2]) (.tup [.int b.1, .int b.2])) = decide (a = b) := by
    obtain ⟨a1, a2⟩ := a
    obtain ⟨b1, b2⟩ := b
    simp only [D.eqv, D.eqvs, Bool.and_true, nbeq, Prod.mk.injEq]
    by_cases h1 : a1 = b1 <;> by_cases h2 : a2 = b2 <;> simp [h1, h2]
  rw [this]
  simp [D.plain, D.plains, D.dep, D.deps]
theorem yd_ne (r : Nat) (L : Lanes) : D.ne (yd r L) (yd r L) = .ok (.bl false) := ne_refl (yd_plain r L) (by rw [yd_dep]; omega)
/-! ### the law's own search -/
def lat (r : Nat) (F : List Lanes) : List Lanes → List Lanes → List Lanes
  | [], acc => acc
  | y :: ys, acc => lat r F ys (acc ++ ((mvs r y).map (dm y)).filter fun x => !decide (x ∈ F ++ acc))
theorem mem_lat {r : Nat} {F : List Lanes} {x : Lanes} : ∀ (ys acc : List Lanes), (∀ z ∈ acc, z ∉ F) → (x ∈ lat r F ys acc ↔ x ∈ acc ∨ (x ∈ candF r ys ∧ x ∉ F))
  | [], acc, h => by simp [lat, candF]
  | y :: ys, acc, h => by
    rw [lat, mem_lat ys _ (fun z hz => by
      rcases List.mem_append.1 hz with q | q
      · exact h z q
      · have := (List.mem_filter.1 q).2
        simp at this
        exact this.1)]
    have e : candF r (y :: ys) = (mvs r y).map (dm y) ++ candF r ys := by simp [candF]
    rw [e, List.mem_append, List.mem_append, List.mem_filter]
    by_cases h1 : x ∈ acc
    · simp [h1]
    · by_cases h2 : x ∈ F
      · simp [h1, h2]
      · simp [h1, h2]
theorem lat_len {r : Nat} {F : List Lanes} : ∀ (ys acc : List Lanes), (∀ y ∈ ys, y.length ≤ 4) → (lat r F ys acc).length ≤ acc.length + ys.length * 16
  | [], acc, _ => by simp [lat]
  | y :: ys, acc, h => by
    rw [lat]
    have ih := lat_len (r := r) (F := F) ys (acc ++ ((mvs r y).map (dm y)).filter fun x => !decide (x ∈ F ++ acc)) fun z hz => h z (by simp [hz])
    have h1 := List.length_filter_le (fun x => !decide (x ∈ F ++ acc)) ((mvs r y).map (dm y))
    have h2 := prs_len (h y (by simp))
    have h3 := List.length_filter_le (psb r y) (prs y.length)
    rw [List.length_append] at ih
    rw [List.length_map] at h1
    unfold mvs at *
    rw [List.length_cons]
    omega
structure Lv (r : Nat) (L0 : Lanes) (j : Nat) (F last : List Lanes) : Prop where
  lo : ∀ x ∈ F, ∃ q, Good r L0 q x ∧ q.length ≤ j
  all : ∀ q x, Good r L0 q x → q.length ≤ j → x ∈ F
  at_ : ∀ x ∈ last, Dist r L0 x j
  ex : ∀ x, Dist r L0 x j → x ∈ last
theorem Lv.zero {r : Nat} {L0 : Lanes} : Lv r L0 0 [L0] [L0] := by
  refine ⟨fun x hx => ?_, fun q x g hq => ?_, fun x hx => ?_, fun x hx => ?_⟩
  · simp at hx; subst hx; exact ⟨[], rfl, Nat.le_refl _⟩
  · have : q = [] := List.length_eq_zero_iff.1 (by omega)
    subst this
    have e : L0 = x := g
    simp [e]
  · simp at hx; subst hx; exact ⟨⟨[], rfl, rfl⟩, fun q _ => Nat.zero_le _⟩
  · obtain ⟨⟨q, g, hq⟩, _⟩ := hx
    have : q = [] := List.length_eq_zero_iff.1 hq
    subst this
    have e : L0 = x := g
    simp [e]
theorem Lv.cand {r : Nat} {L0 : Lanes} {j : Nat} {F last : List Lanes} (h : Lv r L0 j F last) {x : Lanes} (hx : x ∈ candF r last) (hn : x ∉ F) : Dist r L0 x (j + 1) := by
  obtain ⟨y, hy, hm'⟩ := List.mem_flatMap.1 hx
  obtain ⟨m, hm, rfl⟩ := List.mem_map.1 hm'
  obtain ⟨⟨q, g, hq⟩, _⟩ := h.at_ y hy
  refine ⟨⟨q ++ [m], g.snoc (mv_of.1 hm), by simp [hq]⟩, fun p gp => ?_⟩
  by_cases hp : p.length ≤ j
  · exact absurd (h.all p _ gp hp) hn
  · omega
theorem Lv.step {r : Nat} {L0 : Lanes} {j : Nat} {F last : List Lanes} (h : Lv r L0 j F last) : Lv r L0 (j + 1) (F ++ lat r F last []) (lat r F last []) := by
  have hm : ∀ x, x ∈ lat r F last [] ↔ x ∈ candF r last ∧ x ∉ F := fun x => by rw [mem_lat last [] (by simp)]; simp
  have hex : ∀ x, Dist r L0 x (j + 1) → x ∈ candF r last ∧ x ∉ F := fun x hx => by
    obtain ⟨⟨q, g, hq⟩, mn⟩ := hx
    obtain ⟨q', m, rfl⟩ : ∃ q' m, q = q' ++ [m] := by
      have hne : q ≠ [] := fun e => by rw [e] at hq; simp at hq
      exact ⟨q.dropLast, q.getLast hne, (List.dropLast_concat_getLast hne).symm⟩
    obtain ⟨y, g', mv, rfl⟩ := g.unsnoc
    have hl : q'.length = j := by simpa using hq
    have hy : Dist r L0 y j := ⟨⟨q', g', hl⟩, fun p gp => by
      have := mn (p ++ [m]) (gp.snoc mv)
      simp at this
      exact this⟩
    refine ⟨List.mem_flatMap.2 ⟨y, h.ex y hy, List.mem_map.2 ⟨m, mv_of.2 mv, rfl⟩⟩, fun hF => ?_⟩
    obtain ⟨p, gp, hp⟩ := h.lo _ hF
    have := mn p gp
    omega
  refine ⟨fun x hx => ?_, fun q x g hq => ?_, fun x hx => ?_, fun x hx => ?_⟩
  · rcases List.mem_append.1 hx with z | z
    · obtain ⟨q, g, hq⟩ := h.lo x z
      exact ⟨q, g, by omega⟩
    · obtain ⟨a, b⟩ := (hm x).1 z
      obtain ⟨⟨q, g, hq⟩, _⟩ := h.cand a b
      exact ⟨q, g, by omega⟩
  · by_cases hF : x ∈ F
    · simp [hF]
    · refine List.mem_append.2 (.inr ((hm x).2 (hex x ⟨⟨q, g, ?_⟩, fun p gp => ?_⟩)))
      · by_cases hq' : q.length ≤ j
        · exact absurd (h.all q x g hq') hF
        · omega
      · by_cases hp : p.length ≤ j
        · exact absurd (h.all p x gp hp) hF
        · omega
  · obtain ⟨a, b⟩ := (hm x).1 hx
    exact h.cand a b
  · exact (hm x).2 (hex x hx)
end CY

namespace CY
open CL
/-! ### moves back -/
def swp (m : Nat × Nat) : Nat × Nat := (m.2, m.1)
theorem lanes_ext {A B : Lanes} (h : A.length = B.length) (e : ∀ k, k < A.length → lanN A k = lanN B k) : A = B := by
  rw [← lanes_range A, ← lanes_range B, h]
  refine List.map_congr_left fun k hk => e k ?_
  rw [h]; simpa using hk
theorem topOf_snoc (l : List Nat) (t : Nat) : topOf (l ++ [t]) = t := by simp [topOf]
theorem Mv.back {r : Nat} {L : Lanes} {m : Nat × Nat} (o : Ok r L) (h : Mv r L m) : Mv r (dm L m) (swp m) ∧ dm (dm L m) (swp m) = L := by
  have e1 : lanN (dm L m) m.1 = (lanN L m.1).dropLast := by rw [lanN_dm h, if_pos rfl]
  have e2 : lanN (dm L m) m.2 = lanN L m.2 ++ [topOf (lanN L m.1)] := by
    rw [lanN_dm h, if_neg (fun z => h.ne z.symm), if_pos rfl]
  have hlen : (lanN L m.1).length ≤ r := o.len _ (List.mem_of_getElem? (lanN_get h.h1))
  have hpos : 0 < (lanN L m.1).length := List.length_pos_iff.2 h.full
  have mv : Mv r (dm L m) (swp m) := by
    refine ⟨?_, ?_, ?_, ?_, ?_⟩
    · show m.2 < (dm L m).length; rw [dm_len]; exact h.h2
    · show m.1 < (dm L m).length; rw [dm_len]; exact h.h1
    · exact fun z => h.ne z.symm
    · show lanN (dm L m) m.2 ≠ []; rw [e2]; simp
    · show (lanN (dm L m) m.1).length < r
      rw [e1, List.length_dropLast]; omega
  refine ⟨mv, lanes_ext (by rw [dm_len, dm_len]) fun k _ => ?_⟩
  rw [lanN_dm mv]
  show (if k = m.2 then (lanN (dm L m) m.2).dropLast else if k = m.1 then lanN (dm L m) m.1 ++ [topOf (lanN (dm L m) m.2)] else lanN (dm L m) k) = lanN L k
  by_cases h2 : k = m.2
  · rw [if_pos h2, e2, h2]; simp
  · rw [if_neg h2]
    by_cases h1 : k = m.1
    · rw [if_pos h1, e1, e2, topOf_snoc, h1, top_split h.full]
    · rw [if_neg h1, lanN_dm h, if_neg h1, if_neg h2]
theorem Good.back {r : Nat} : ∀ {q : Path} {L x : Lanes}, Ok r L → Good r L q x → Good r x (q.reverse.map swp) L
  | [], L, x, o, g => by have g : L = x := g; subst g; exact rfl
  | m :: q, L, x, o, g => by
    obtain ⟨h, g⟩ := (show Mv r L m ∧ Good r (dm L m) q x from g)
    have ih := Good.back (o.dm h) g
    obtain ⟨mv, e⟩ := h.back o
    have := ih.snoc mv
    rw [e] at this
    rw [List.reverse_cons, List.map_append]
    exact this
theorem Dist.symm {r : Nat} {L x : Lanes} {v : Nat} (o : Ok r L) (h : Dist r L x v) : Dist r x L v := by
  obtain ⟨⟨q, g, hq⟩, mn⟩ := h
  have ox := (g.ok o).1
  refine ⟨⟨_, g.back o, by simp [hq]⟩, fun p gp => ?_⟩
  have := mn _ (gp.back ox)
  simpa using this
theorem Dist.ex {r : Nat} {L x : Lanes} {q : Path} (g : Good r L q x) : ∃ v, Dist r L x v ∧ v ≤ q.length := by
  generalize hn : q.length = n
  induction n using Nat.strongRecOn generalizing q with
  | _ n ih =>
    by_cases h : ∃ p, Good r L p x ∧ p.length < n
    · obtain ⟨p, gp, hp⟩ := h
      obtain ⟨v, hv, hl⟩ := ih p.length hp gp rfl
      exact ⟨v, hv, by omega⟩
    · refine ⟨n, ⟨⟨q, g, hn⟩, fun p gp => ?_⟩, Nat.le_refl _⟩
      exact Nat.not_lt.1 fun z => h ⟨p, gp, z⟩
theorem Dist.next {r : Nat} {L x : Lanes} {m : Nat × Nat} {v w : Nat} (o : Ok r L) (h : Dist r L x v) (mv : Mv r x m) (h' : Dist r L (dm x m) w) : w ≤ v + 1 ∧ v ≤ w + 1 := by
  obtain ⟨⟨q, g, hq⟩, mn⟩ := h
  obtain ⟨⟨p, gp, hp⟩, mn'⟩ := h'
  have ox := (g.ok o).1
  obtain ⟨mv', e⟩ := mv.back ox
  have h1 := mn' _ (g.snoc mv)
  have g2 := gp.snoc mv'
  rw [e] at g2
  have h2 := mn _ g2
  simp at h1 h2
  omega
theorem Dist.zero {r : Nat} {L x : Lanes} {v : Nat} (h : Dist r L x v) : v = 0 ↔ x = L := by
  obtain ⟨⟨q, g, hq⟩, mn⟩ := h
  constructor
  · intro hv
    have : q = [] := List.length_eq_zero_iff.1 (by omega)
    subst this
    have g : L = x := g
    exact g.symm
  · intro e
    have := mn [] e.symm
    simpa using this
theorem Dist.one {r : Nat} {L x : Lanes} {v : Nat} (h : Dist r L x v) : v = 1 ↔ (x ≠ L ∧ x ∈ (mvs r L).map (dm L)) := by
  have hz := h.zero
  obtain ⟨⟨q, g, hq⟩, mn⟩ := h
  constructor
  · intro hv
    refine ⟨fun e => by have := hz.2 e; omega, ?_⟩
    obtain ⟨m, rfl⟩ : ∃ m, q = [m] := List.length_eq_one_iff.1 (by omega)
    obtain ⟨mv, e⟩ := (show Mv r L m ∧ dm L m = x from g)
    exact List.mem_map.2 ⟨m, mv_of.2 mv, e⟩
  · rintro ⟨hne, hm⟩
    obtain ⟨m, hm, e⟩ := List.mem_map.1 hm
    have h1 := mn [m] ⟨mv_of.1 hm, e⟩
    have h2 : v ≠ 0 := fun z => hne (hz.1 z)
    simp at h1
    omega
/-! ### when no move is possible -/
theorem no_moves {r : Nat} {L : Lanes} (o : Ok r L) : (mvs r L).isEmpty = ((frees L).isEmpty || ((L.filter fun l => decide (l.length < r)).isEmpty || (L.length == 1))) := by
  have hfr : (frees L).isEmpty = true ↔ ∀ k, k < L.length → lanN L k = [] := by
    rw [List.isEmpty_iff, frees_nil o, List.flatten_eq_nil_iff]
    constructor
    · intro h k hk; exact h _ (lanN_mem.2 ⟨k, hk, rfl⟩)
    · intro h l hl; obtain ⟨k, hk, rfl⟩ := lanN_mem.1 hl; exact h k hk
  have hrm : (L.filter fun l => decide (l.length < r)).isEmpty = true ↔ ∀ k, k < L.length → ¬ (lanN L k).length < r := by
    rw [List.isEmpty_iff, List.filter_eq_nil_iff]
    constructor
    · intro h k hk z; exact h _ (lanN_mem.2 ⟨k, hk, rfl⟩) (by simpa using z)
    · intro h l hl z; obtain ⟨k, hk, rfl⟩ := lanN_mem.1 hl; exact h k hk (by simpa using z)
  have key : (mvs r L).isEmpty = true ↔ ((frees L).isEmpty = true ∨ (L.filter fun l => decide (l.length < r)).isEmpty = true ∨ L.length = 1) := by
    rw [hfr, hrm]
    constructor
    · intro h
      have h : mvs r L = [] := List.isEmpty_iff.1 h
      have no : ∀ i j, i < L.length → j < L.length → i ≠ j → lanN L i ≠ [] → (lanN L j).length < r → False := fun i j hi hj hij hf hr => by
        have : (i, j) ∈ mvs r L := mv_of.2 ⟨hi, hj, hij, hf, hr⟩
        rw [h] at this
        simp at this
      by_cases h1 : L.length = 1
      · exact .inr (.inr h1)
      · by_cases h2 : ∀ k, k < L.length → lanN L k = []
        · exact .inl h2
        · refine .inr (.inl fun j hj hr => ?_)
          obtain ⟨i, hi⟩ := Classical.not_forall.1 h2
          obtain ⟨hi, hf⟩ := Classical.not_imp.1 hi
          by_cases hij : i = j
          · subst hij
            have hn1 := o.n1
            obtain ⟨k, hk, hki⟩ : ∃ k, k < L.length ∧ k ≠ i := by
              by_cases hz : i = 0
              · exact ⟨1, by omega, by omega⟩
              · exact ⟨0, by omega, by omega⟩
            by_cases hkr : (lanN L k).length < r
            · exact no i k hi hk (Ne.symm hki) hf hkr
            · have hr1 := o.r1
              exact no k i hk hi hki (fun z => hkr (by rw [z]; simp; omega)) hr
          · exact no i j hi hj hij hf hr
    · intro h
      rw [List.isEmpty_iff]
      cases hm : mvs r L with
      | nil => rfl
      | cons m t =>
        have mv := mv_of.1 (show m ∈ mvs r L by rw [hm]; simp)
        rcases h with h | h | h
        · exact absurd (h _ mv.h1) mv.full
        · exact absurd mv.room (h _ mv.h2)
        · have := mv.h1; have := mv.h2; have := mv.ne
          omega
  cases h : (mvs r L).isEmpty with
  | true =>
    rcases key.1 h with q | q | q
    · simp [q]
    · simp [q]
    · simp [q]
  | false =>
    have hn : ¬ ((frees L).isEmpty = true ∨ (L.filter fun l => decide (l.length < r)).isEmpty = true ∨ L.length = 1) := fun z => by
      have := key.2 z
      rw [h] at this; cases this
    simp only [not_or] at hn
    obtain ⟨a, b, c⟩ := hn
    have a : (frees L).isEmpty = false := by simpa using a
    have b : (L.filter fun l => decide (l.length < r)).isEmpty = false := by
      cases z : (L.filter fun l => decide (l.length < r)).isEmpty with
      | false => rfl
      | true => exact absurd z b
    have c : (L.length == 1) = false := by simpa using c
    rw [a, b, c]
    rfl
/-! ### what stands where behind a move -/
theorem top_moved {r : Nat} {L : Lanes} {m : Nat × Nat} (o : Ok r L) (h : Mv r L m) : Tp (dm L m) (topOf (lanN L m.1)) ∧ idx (dm L m) (topOf (lanN L m.1)) = m.2 := by
  have e2 : lanN (dm L m) m.2 = lanN L m.2 ++ [topOf (lanN L m.1)] := by
    rw [lanN_dm h, if_neg (fun z => h.ne z.symm), if_pos rfl]
  have hk : m.2 < (dm L m).length := by rw [dm_len]; exact h.h2
  have hi : idx (dm L m) (topOf (lanN L m.1)) = m.2 := idx_eq (o.dm h).nd hk (by rw [e2]; simp)
  refine ⟨⟨List.mem_flatten.2 ⟨_, lanN_mem.2 ⟨_, hk, rfl⟩, by rw [e2]; simp⟩, ?_⟩, hi⟩
  rw [lane_eq, hi, e2, topOf_snoc]
theorem notinMv (m : Nat × Nat) (ms : Path) : D.notin (mvD m) (.lst (ms.map mvD)) = .ok (.bl !decide (m ∈ ms)) := by
  have e : D.notin (mvD m) (.lst (ms.map mvD)) = if (mvD m).plain && D.plains (ms.map mvD) && decide ((mvD m).dep ≤ 60) then .ok (.bl !((ms.map mvD).any fun z => z.eqv (mvD m))) else .bad := rfl
  have hp : D.plains (ms.map mvD) = true := plains_map mvD mv_plain ms
  have hd : (mvD m).dep ≤ 60 := Nat.le_trans (mv_dep m) (by decide)
  rw [e, hp, mv_plain, decide_eq_true hd]
  have e2 : ((ms.map mvD).any fun z => z.eqv (mvD m)) = decide (m ∈ ms) := by
    rw [List.any_map]
    clear e hp
    induction ms with
    | nil => simp
    | cons x l ih =>
      rw [List.any_cons, ih]
      have hq : ((fun z => z.eqv (mvD m)) ∘ mvD) x = decide (x = m) := by
        have := eqMv x m
        unfold D.eq at this
        have h1 : ((mvD x).plain && (mvD m).plain && decide (min (mvD x).dep (mvD m).dep ≤ 60)) = true := by
          rw [mv_plain, mv_plain]
          simp
          have := mv_dep x
          omega
        rw [if_pos h1] at this
        injection this with this
        injection this with this
      rw [hq]
      by_cases h : x = m
      · subst h; simp
      · have h' : ¬ m = x := fun z => h z.symm
        simp [h, h']
  rw [e2]
  simp
end CY

namespace CY
open CL
theorem ev_mulS {i j : Int} (h0 : 0 ≤ j) (h1 : j ≤ 1000000000000) : D.mul (.int i) (.int j) = .ok (.int (i * j)) := by
  show (if (b64 i || b64 j) = true then R.ok (D.int (i * j)) else R.bad) = _
  rw [b64_small h0 h1, Bool.or_true, if_pos rfl]
theorem map_erase {α β : Type} (f : α → β) : ∀ (l : List α) (q : Nat), (l.map f).eraseIdx q = (l.eraseIdx q).map f
  | [], q => by simp
  | x :: l, 0 => rfl
  | x :: l, q + 1 => by simp only [List.map_cons, List.eraseIdx_cons_succ, map_erase f l q]
/-! ### the yard that _law_park builds -/
structure PK (r n m k : Nat) (L : Lanes) (R : List Nat) : Prop where
  n : L.length = n
  len : ∀ l ∈ L, l.length ≤ r
  let_ : ∀ c ∈ L.flatten ++ R, isL c = true
  nd : (L.flatten ++ R).Nodup
  cars : L.flatten.length ≤ k
  rest : R.length + k = m
theorem erase_perm {l : List Nat} {q c : Nat} (h : l[q]? = some c) : (c :: l.eraseIdx q).Perm l := L2.erase_perm l q c h
theorem PK.drop {r n m k : Nat} {L : Lanes} {R : List Nat} (h : PK r n m k L R) {q c : Nat} (hq : R[q]? = some c) : PK r n m (k + 1) L (R.eraseIdx q) := by
  have pm := erase_perm hq
  have hl : (R.eraseIdx q).length + 1 = R.length := by have := pm.length_eq; simpa using this
  have sb : ∀ x ∈ R.eraseIdx q, x ∈ R := fun x hx => pm.mem_iff.1 (List.mem_cons_of_mem _ hx)
  refine ⟨h.n, h.len, fun x hx => h.let_ x ?_, ?_, by have := h.cars; omega, by have := h.rest; omega⟩
  · rcases List.mem_append.1 hx with e | e
    · exact List.mem_append.2 (.inl e)
    · exact List.mem_append.2 (.inr (sb x e))
  · have := h.nd
    rw [List.nodup_append] at this ⊢
    refine ⟨this.1, (List.nodup_cons.1 (pm.nodup_iff.2 this.2.1)).2, fun a ha b hb => this.2.2 a ha b (sb b hb)⟩
theorem PK.put {r n m k : Nat} {L : Lanes} {R : List Nat} (h : PK r n m k L R) {q c p : Nat} (hq : R[q]? = some c) (hp : p < L.length) (hr : (lanN L p).length < r) : PK r n m (k + 1) (L.set p (lanN L p ++ [c])) (R.eraseIdx q) := by
  have pm := erase_perm hq
  have ps := set_perm (c := c) hp
  have hl : (R.eraseIdx q).length + 1 = R.length := by have := pm.length_eq; simpa using this
  have pa : ((L.set p (lanN L p ++ [c])).flatten ++ R.eraseIdx q).Perm (L.flatten ++ R) := by
    refine (ps.append_right _).trans ?_
    refine List.Perm.trans ?_ (pm.append_left L.flatten)
    show (c :: (L.flatten ++ R.eraseIdx q)).Perm _
    exact List.perm_middle.symm
  refine ⟨by rw [List.length_set]; exact h.n, fun l hl => ?_, fun x hx => h.let_ x (pa.mem_iff.1 hx), pa.nodup_iff.2 h.nd, by rw [ps.length_eq]; have := h.cars; simp only [List.length_cons]; omega, by have := h.rest; omega⟩
  obtain ⟨j, hj, rfl⟩ := lanN_mem.1 hl
  rw [lanN_set hp]
  split
  · simp; omega
  · exact h.len _ (lanN_mem.2 ⟨j, by simpa using hj, rfl⟩)
theorem PK.ok {r n m k : Nat} {L : Lanes} {R : List Nat} (h : PK r n m k L R) (r1 : 1 ≤ r) (r4 : r ≤ 4) (n1 : 1 ≤ n) (n4 : n ≤ 4) : Ok r L :=
  ⟨r1, r4, by rw [h.n]; exact n1, by rw [h.n]; exact n4, h.len, fun l hl c hc => h.let_ c (List.mem_append.2 (.inl (List.mem_flatten.2 ⟨l, hl, hc⟩))), (List.nodup_append.1 h.nd).1⟩
theorem rep_lanes (n : Nat) (hn : n ≤ 1000) : D.rep (.lst [.str []]) (.int (1 + (n : Int))) = .ok (.lst ((List.replicate (n + 1) ([] : List Nat)).map D.str)) := by
  have e1 : wid 999999 (1 + (n : Int)) = true := wid_iff.2 ⟨by omega, by omega⟩
  have e2 : (1 + (n : Int)).toNat = n + 1 := by omega
  show (if wid 999999 (1 + (n : Int)) = true ∧ [D.str []].length * (1 + (n : Int)).toNat ≤ lim then R.ok (D.lst (List.replicate (1 + (n : Int)).toNat [D.str []]).flatten) else .bad) = _
  rw [if_pos ⟨e1, by rw [e2]; simp only [lim, List.length_cons, List.length_nil]; omega⟩, e2]
  congr 2
  rw [List.map_replicate]
  generalize n + 1 = z
  clear e1 e2
  induction z with
  | zero => rfl
  | succ z ih => simp [List.replicate_succ, ih]
end CY

namespace CY
open CL
/-! ### cars at the sides of the lanes -/
def botOf (l : List Nat) : Nat := l.headD 0
theorem botOf_eq {l : List Nat} (h : l ≠ []) : l[0]? = some (botOf l) := by
  cases l with
  | nil => exact absurd rfl h
  | cons a l => rfl
def nes (L : Lanes) : Lanes := L.filter fun l => l != []
def sides (d : Bool) (L : Lanes) : List Nat := (nes L).map topOf ++ if d then (nes L).map botOf else []
def goB (d : Bool) : Lanes → List Nat → Bool
  | _, [] => true
  | L, c :: s => decide (c ∈ sides d L) && goB d (strike L c) s
theorem sides_mem {L : Lanes} {c : Nat} {b : List Nat} (h : ∀ x, x ∈ b ↔ x ∈ (nes L).map botOf ++ (nes L).map topOf) : c ∈ b ↔ c ∈ sides true L := by
  rw [h]
  unfold sides
  simp only [List.mem_append, if_true]
  exact Or.comm
theorem notinSigns (c : Nat) (l : List Nat) : D.notinL (.str [c]) (.lst (l.map fun x => D.str [x])) = .ok (.bl (!decide (c ∈ l))) := by
  have hp : D.plains (l.map fun x => D.str [x]) = true := by
    have := plains_str (l.map fun x => [x])
    rwa [List.map_map] at this
  have e2 : ((l.map fun x => D.str [x]).any fun z => z.eqv (.str [c])) = decide (c ∈ l) := by
    rw [List.any_map]
    clear hp
    induction l with
    | nil => simp
    | cons x l ih =>
      rw [List.any_cons, ih]
      by_cases h : x = c
      · subst h; simp [Function.comp, D.eqv]
      · have h' : ¬ c = x := fun z => h z.symm
        simp [Function.comp, D.eqv, h, h']
  show (if (D.str [c]).plain && D.plains (l.map fun x => D.str [x]) && decide ((D.str [c]).dep ≤ 60) then R.ok (D.bl !((l.map fun x => D.str [x]).any fun z => z.eqv (.str [c]))) else .bad) = _
  rw [hp, e2]
  simp [D.plain, D.dep]
theorem addLLs {a b : List D} (h : a.length + b.length ≤ 1000) : D.addLL (.lst a) (.lst b) = .ok (.lst (a ++ b)) := by
  show (if a.length + b.length ≤ lim then R.ok (D.lst (a ++ b)) else .bad) = _
  rw [if_pos (by simp only [lim]; omega)]
theorem nes_len (L : Lanes) : (nes L).length ≤ L.length := List.length_filter_le _ _
theorem strike_len (L : Lanes) (c : Nat) : (strike L c).length = L.length := by simp [strike]
/-! the row of both ends -/
def ddN : List Nat → List Nat
  | [] => []
  | x :: l => if l.contains x then ddN l else x :: ddN l
theorem ddS_signs : ∀ l : List Nat, ddS (l.map fun c => [c]) = (ddN l).map fun c => [c]
  | [] => rfl
  | x :: l => by
    have e : (l.map fun c => [c]).contains [x] = l.contains x := by
      rw [Bool.eq_iff_iff]
      simp
    rw [List.map_cons]
    unfold ddS ddN
    rw [e, ddS_signs l]
    split <;> rfl
theorem mem_ddN : ∀ (l : List Nat) (x : Nat), x ∈ ddN l ↔ x ∈ l
  | [], x => by simp [ddN]
  | y :: l, x => by
    unfold ddN
    split
    · rename_i h
      rw [mem_ddN l x, List.mem_cons]
      constructor
      · exact .inr
      · rintro (rfl | h')
        · simpa using h
        · exact h'
    · rw [List.mem_cons, List.mem_cons, mem_ddN l x]
theorem ddN_nodup : ∀ l : List Nat, (ddN l).Nodup
  | [] => List.nodup_nil
  | y :: l => by
    unfold ddN
    split
    · exact ddN_nodup l
    · rename_i h
      refine List.nodup_cons.2 ⟨fun z => h ?_, ddN_nodup l⟩
      simpa using (mem_ddN l y).1 z
def endsL (L : Lanes) : List Nat := srt (ddN ((nes L).map botOf ++ (nes L).map topOf))
theorem mem_endsL {L : Lanes} {c : Nat} : c ∈ endsL L ↔ c ∈ sides true L := by
  refine sides_mem fun x => ?_
  unfold endsL
  rw [mem_srt, mem_ddN]
theorem ev_ends {f : DEnv → R D} {δ : DEnv} {l : List Nat} (h : f δ = .ok (.lst (l.map fun c => D.str [c]))) (hl : l.length < 64) : sortSetS f δ = .ok (.lst ((srt (ddN l)).map fun c => D.str [c])) := by
  have e : (l.map fun c => D.str [c]) = (l.map fun c => [c]).map D.str := by rw [List.map_map]; rfl
  unfold sortSetS
  rw [h]
  simp only [R.ok_bind, e, allStr_map, List.length_map, if_pos hl, ddS_signs, isort_signs]
  rw [List.map_map]
  rfl
/-! the number of orders at both ends -/
def exB : Lanes → Nat
  | [] => 0
  | l :: L => (l.length - 1) + exB L
theorem exB_sum : ∀ L : Lanes, ((nes L).map fun l => ((l.length : Int) - 1)).sum = (exB L : Int)
  | [] => rfl
  | l :: L => by
    have ih := exB_sum L
    unfold nes at ih ⊢
    rw [List.filter_cons]
    cases l with
    | nil => simpa [exB] using ih
    | cons a l =>
      simp only [bne_iff_ne, ne_eq, reduceCtorEq, not_false_eq_true, if_true, List.map_cons, List.sum_cons, ih, exB, List.length_cons]
      omega
theorem exB_flat : ∀ L : Lanes, exB L ≤ L.flatten.length
  | [] => Nat.le_refl _
  | l :: L => by
    have := exB_flat L
    simp only [exB, List.flatten_cons, List.length_append]
    omega
theorem exB_le {r : Nat} {L : Lanes} (o : Ok r L) : exB L ≤ 16 := by
  have h0 := exB_flat L
  have h1 := flat_le o.len
  have h2 := Nat.mul_le_mul o.r4 o.n4
  omega
/-! at one side: what frB says -/
theorem goB_free {r : Nat} : ∀ {s : List Nat} {L : Lanes}, Ok r L → s.Perm L.flatten → goB false L s = frB L s
  | [], L, _, _ => rfl
  | c :: s, L, o, pm => by
    have hc : c ∈ L.flatten := pm.mem_iff.1 (by simp)
    have hs : c ∈ sides false L ↔ bef L c = [] := by
      rw [← mem_frees o hc]
      unfold sides frees nes
      simp [-List.mem_filter, mem_srt]
    by_cases hb : bef L c = []
    · have t := (tp_iff o).1 ((mem_frees' o).2 ⟨hc, hb⟩)
      have pm' : s.Perm (rm L c).flatten := (List.perm_cons c).1 (pm.trans (rm_perm t).symm)
      unfold goB frB
      rw [strike_top o t, goB_free (o.rm t) pm']
      simp [hs, hb]
    · unfold goB frB
      simp [hs, hb]
end CY

namespace CY
open CL
/-! ### a car struck out of its lane -/
theorem lanN_strike (L : Lanes) (c k : Nat) : lanN (strike L c) k = (lanN L k).filter (· != c) := by
  unfold lanN strike
  rw [List.getD_eq_getElem?_getD, List.getD_eq_getElem?_getD, List.getElem?_map]
  cases L[k]? <;> rfl
theorem strike_flat (L : Lanes) (c : Nat) : (strike L c).flatten = L.flatten.filter (· != c) := by
  unfold strike
  induction L with
  | nil => rfl
  | cons l L ih => rw [List.map_cons, List.flatten_cons, List.flatten_cons, List.filter_append, ih]
theorem mem_strike {L : Lanes} {c x : Nat} : x ∈ (strike L c).flatten ↔ x ∈ L.flatten ∧ x ≠ c := by
  rw [strike_flat, List.mem_filter]
  simp
theorem strike_tot {L : Lanes} (nd : L.flatten.Nodup) {c : Nat} (hc : c ∈ L.flatten) : (strike L c).flatten.length + 1 = L.flatten.length := by
  rw [strike_flat]
  have := (perm_out nd hc).length_eq
  simpa using this
theorem Ok.strike {r : Nat} {L : Lanes} (o : Ok r L) (c : Nat) : Ok r (strike L c) := by
  refine ⟨o.r1, o.r4, by rw [strike_len]; exact o.n1, by rw [strike_len]; exact o.n4, fun l hl => ?_, fun l hl x hx => ?_, by rw [strike_flat]; exact o.nd.filter _⟩
  · obtain ⟨k, hk, rfl⟩ := List.mem_map.1 hl
    exact Nat.le_trans (List.length_filter_le _ _) (o.len k hk)
  · obtain ⟨k, hk, rfl⟩ := List.mem_map.1 hl
    exact o.let_ k hk x (List.mem_filter.1 hx).1
theorem sides_flat {d : Bool} {L : Lanes} {c : Nat} (h : c ∈ sides d L) : c ∈ L.flatten := by
  unfold sides at h
  have key : ∀ (f : List Nat → Nat), (∀ l : List Nat, l ≠ [] → f l ∈ l) → c ∈ (nes L).map f → c ∈ L.flatten := fun f hf hc => by
    obtain ⟨l, hl, rfl⟩ := List.mem_map.1 hc
    obtain ⟨h1, h2⟩ := List.mem_filter.1 hl
    exact List.mem_flatten.2 ⟨l, h1, hf l (by simpa using h2)⟩
  rcases List.mem_append.1 h with e | e
  · exact key _ (fun l hl => topOf_mem hl) e
  · cases d with
    | false => simp at e
    | true => exact key _ (fun l hl => List.mem_of_getElem? (botOf_eq hl)) (by simpa using e)
/-! ### all orders at both ends -/
def bos : Nat → Lanes → List (List Nat)
  | 0, _ => [[]]
  | n + 1, L => (endsL L).flatMap fun c => (bos n (strike L c)).map fun t => c :: t
theorem cont_both {r : Nat} {known : List Nat} (hk : known.Pairwise (· < ·)) : ∀ (n : Nat) {L : Lanes} {p : List Nat}, Ok r L → L.flatten.length = n → (∀ c, (c ∈ known ∧ c ∉ p) ↔ c ∈ L.flatten) → (cont known n p).filter (goB true L) = bos n L
  | 0, L, p, o, hn, h => rfl
  | n + 1, L, p, o, hn, h => by
    rw [cont, List.filter_flatMap, bos]
    have ef : endsL L = (known.filter fun c => !decide (c ∈ p)).filter fun c => decide (c ∈ sides true L) := by
      refine strict_ext (srt_strict (ddN_nodup _)) ((hk.filter _).filter _) fun x => ?_
      rw [mem_endsL, List.mem_filter, List.mem_filter]
      constructor
      · intro hx
        have := (h x).2 (sides_flat hx)
        simp [hx, this.1, this.2]
      · intro hx
        simpa using hx.2
    rw [ef, ← flatMap_if (fun c => decide (c ∈ sides true L)) (fun c => (bos n (strike L c)).map fun t => c :: t)]
    have key : ∀ c ∈ (known.filter fun c => !decide (c ∈ p)), ((cont known n (p ++ [c])).map fun t => c :: t).filter (goB true L) = if decide (c ∈ sides true L) = true then (bos n (strike L c)).map fun t => c :: t else [] := by
      intro c hc
      have hc' : c ∈ L.flatten := (h c).1 (by
        obtain ⟨h1, h2⟩ := List.mem_filter.1 hc
        exact ⟨h1, by simpa using h2⟩)
      rw [List.filter_map]
      by_cases hb : c ∈ sides true L
      · rw [if_pos (by simpa using hb)]
        have e : (goB true L ∘ fun t => c :: t) = goB true (strike L c) := by
          funext s
          simp [Function.comp, goB, hb]
        rw [e, cont_both hk n (o.strike c) (by have := strike_tot o.nd hc'; omega) fun x => ?_]
        rw [mem_strike, ← h x]
        simp only [List.mem_append, List.mem_singleton, not_or]
        constructor
        · rintro ⟨a, b, d⟩; exact ⟨⟨a, b⟩, d⟩
        · rintro ⟨⟨a, b⟩, d⟩; exact ⟨a, b, d⟩
      · rw [if_neg (by simpa using hb)]
        have e : (goB true L ∘ fun t => c :: t) = fun _ => false := by
          funext s
          simp [Function.comp, goB, hb]
        rw [e]
        simp
    generalize (known.filter fun c => !decide (c ∈ p)) = ks at key
    clear ef
    induction ks with
    | nil => rfl
    | cons c ks ih =>
      rw [List.flatMap_cons, List.flatMap_cons, key c (by simp), ih fun x hx => key x (by simp [hx])]
theorem ords_both {r : Nat} {L : Lanes} (o : Ok r L) : (ords (srt L.flatten)).filter (goB true L) = bos L.flatten.length L := by
  have hl := (srt_perm L.flatten).length_eq
  rw [ords_cont, hl, cont_both (srt_strict o.nd) L.flatten.length o rfl (fun c => by simp [mem_srt])]
/-! ### their number -/
def el (l : List Nat) : List Nat := match l with
  | [] => []
  | [a] => [a]
  | a :: b :: t => [a, topOf (a :: b :: t)]
theorem el_sub : ∀ l : List Nat, (el l).Sublist l
  | [] => List.Sublist.refl _
  | [a] => List.Sublist.refl _
  | a :: b :: t => by
    have h : topOf (a :: b :: t) ∈ b :: t := by
      have : topOf (a :: b :: t) = topOf (b :: t) := by simp [topOf, List.getLastD]
      rw [this]
      exact topOf_mem (by simp)
    exact (List.singleton_sublist.2 h).cons₂ a
theorem mem_el {l : List Nat} {x : Nat} : x ∈ el l ↔ l ≠ [] ∧ (x = botOf l ∨ x = topOf l) := by
  match l with
  | [] => simp [el]
  | [a] => simp [el, botOf, topOf]
  | a :: b :: t => simp [el, botOf]
theorem flatMap_el_sub : ∀ L : Lanes, (L.flatMap el).Sublist L.flatten
  | [] => List.Sublist.refl _
  | l :: L => by rw [List.flatMap_cons, List.flatten_cons]; exact (el_sub l).append (flatMap_el_sub L)
theorem ends_perm {r : Nat} {L : Lanes} (o : Ok r L) : (endsL L).Perm (L.flatMap el) := by
  refine (List.perm_ext_iff_of_nodup ?_ (o.nd.sublist (flatMap_el_sub L))).2 fun x => ?_
  · exact (srt_perm _).nodup_iff.2 (ddN_nodup _)
  · rw [mem_endsL, List.mem_flatMap]
    unfold sides nes
    simp only [if_true, List.mem_append, List.mem_map, List.mem_filter, bne_iff_ne, ne_eq, mem_el]
    constructor
    · rintro (⟨l, ⟨h1, h2⟩, rfl⟩ | ⟨l, ⟨h1, h2⟩, rfl⟩)
      · exact ⟨l, h1, h2, .inr rfl⟩
      · exact ⟨l, h1, h2, .inl rfl⟩
    · rintro ⟨l, h1, h2, rfl | rfl⟩
      · exact .inr ⟨l, ⟨h1, h2⟩, rfl⟩
      · exact .inl ⟨l, ⟨h1, h2⟩, rfl⟩
end CY

namespace CY
open CL
/-! ### the number of the orders at both ends -/
theorem strike_in {l : List Nat} (nd : l.Nodup) {c : Nat} (hc : c ∈ l) : (l.filter (· != c)).length = l.length - 1 := by
  have := (perm_out nd hc).length_eq
  simp only [List.length_cons] at this
  omega
theorem strike_out {l : List Nat} {c : Nat} (hc : c ∉ l) : l.filter (· != c) = l := List.filter_eq_self.2 fun x hx => by
  have : x ≠ c := fun e => hc (e ▸ hx)
  simpa using this
theorem lan_nodup {L : Lanes} (nd : L.flatten.Nodup) {i : Nat} (hi : i < L.length) : (lanN L i).Nodup := by
  have hm : lanN L i ∈ L := lanN_mem.2 ⟨i, hi, rfl⟩
  exact nd.sublist (List.sublist_flatten_of_mem hm)
theorem lens_strike {L : Lanes} (nd : L.flatten.Nodup) {i : Nat} (hi : i < L.length) {c : Nat} (hc : c ∈ lanN L i) : lens (strike L c) = (lens L).set i ((lanN L i).length - 1) := by
  have hix := idx_eq nd hi hc
  apply List.ext_getElem?
  intro k
  by_cases hk : k < L.length
  · have e1 : (lens (strike L c))[k]? = some ((lanN L k).filter (· != c)).length := by
      rw [lens_get (by rw [strike_len]; exact hk), lanN_strike]
    rw [e1, List.getElem?_set]
    by_cases h : i = k
    · subst h
      have hl : i < (lens L).length := by simpa [lens] using hi
      rw [if_pos rfl, if_pos hl, strike_in (lan_nodup nd hi) hc]
    · rw [if_neg h, lens_get hk, strike_out fun z => h ?_]
      rw [← hix]
      exact idx_eq nd hk z
  · rw [List.getElem?_eq_none (by simpa [lens, strike_len] using hk), List.getElem?_eq_none (by simpa [lens] using hk)]
theorem cnt_strike {L : Lanes} (nd : L.flatten.Nodup) {i : Nat} (hi : i < L.length) {c : Nat} (hc : c ∈ lanN L i) : cnt (strike L c) = dec (lens L) i := by
  have hp : 0 < (lanN L i).length := List.length_pos_of_mem hc
  unfold dec
  rw [lens_get hi]
  obtain ⟨n, hn⟩ := Nat.exists_eq_succ_of_ne_zero (Nat.ne_of_gt hp)
  unfold cnt
  rw [lens_strike nd hi hc, hn]
  rfl
theorem exB_lens : ∀ L : Lanes, exB L = ((lens L).map fun n => n - 1).sum
  | [] => rfl
  | l :: L => by
    rw [exB, exB_lens L]
    rfl
theorem sum_setN : ∀ (ls : List Nat) (i v n : Nat), ls[i]? = some n → (ls.set i v).sum + n = ls.sum + v
  | [], i, v, n, h => by simp at h
  | x :: ls, 0, v, n, h => by
    simp at h
    subst h
    simp only [List.set_cons_zero, List.sum_cons]
    omega
  | x :: ls, i + 1, v, n, h => by
    have := sum_setN ls i v n (by simpa using h)
    simp only [List.set_cons_succ, List.sum_cons]
    omega
theorem exB_strike {L : Lanes} (nd : L.flatten.Nodup) {i : Nat} (hi : i < L.length) {c : Nat} (hc : c ∈ lanN L i) : exB (strike L c) + ((lanN L i).length - 1) = exB L + ((lanN L i).length - 1 - 1) := by
  rw [exB_lens, exB_lens, lens_strike nd hi hc, List.map_set]
  have := sum_setN ((lens L).map fun n => n - 1) i ((lanN L i).length - 1 - 1) ((lanN L i).length - 1) (by rw [List.getElem?_map, lens_get hi]; rfl)
  exact this
theorem le_sumN {x : Nat} : ∀ {l : List Nat}, x ∈ l → x ≤ l.sum
  | y :: l, h => by
    rw [List.sum_cons]
    rcases List.mem_cons.1 h with e | e
    · omega
    · have := le_sumN e; omega
theorem el_sum {L : Lanes} (nd : L.flatten.Nodup) {i : Nat} (hi : i < L.length) : ((el (lanN L i)).map fun c => cnt (strike L c) * 2 ^ exB (strike L c)).sum = dec (lens L) i * 2 ^ exB L := by
  have key : ∀ c ∈ el (lanN L i), cnt (strike L c) * 2 ^ exB (strike L c) = dec (lens L) i * 2 ^ (exB L + ((lanN L i).length - 1 - 1) - ((lanN L i).length - 1)) := by
    intro c hc
    have hm := (el_sub _).subset hc
    have := exB_strike nd hi hm
    rw [cnt_strike nd hi hm]
    congr 2
    omega
  have hl := lens_get hi
  have hex : (lanN L i).length - 1 ≤ exB L := by
    have hm : (lanN L i).length - 1 ∈ (lens L).map fun n => n - 1 := List.mem_map.2 ⟨_, List.mem_of_getElem? hl, rfl⟩
    rw [exB_lens]
    exact le_sumN hm
  rw [List.map_congr_left key]
  generalize lanN L i = l at hl hex
  match l with
  | [] =>
    have : dec (lens L) i = 0 := by
      unfold dec
      rw [hl]
      rfl
    rw [this]
    simp [el]
  | [a] => simp [el]
  | a :: b :: t =>
    simp only [List.length_cons] at hex ⊢
    have e : exB L + (t.length + 1 + 1 - 1 - 1) - (t.length + 1 + 1 - 1) = exB L - 1 := by omega
    rw [e]
    have h1 : exB L = exB L - 1 + 1 := by omega
    simp only [el, List.map_cons, List.map_nil, List.sum_cons, List.sum_nil, Nat.add_zero]
    conv => rhs; rw [h1, Nat.pow_succ]
    rw [← Nat.mul_assoc]
    omega
theorem sum_flat {α : Type} (w : Nat → Nat) (g : α → List Nat) : ∀ l : List α, ((l.flatMap g).map w).sum = (l.map fun x => ((g x).map w).sum).sum
  | [] => rfl
  | x :: l => by rw [List.flatMap_cons, List.map_append, List.sum_append, sum_flat w g l]; rfl
theorem both_rec {r : Nat} {L : Lanes} (o : Ok r L) (h : L.flatten ≠ []) : ((endsL L).map fun c => cnt (strike L c) * 2 ^ exB (strike L c)).sum = cnt L * 2 ^ exB L := by
  rw [sum_perm ((ends_perm o).map _), sum_flat]
  conv => lhs; rw [← lanes_range L]
  rw [List.map_map]
  have e : (List.range L.length).map ((fun x => ((el x).map fun c => cnt (strike L c) * 2 ^ exB (strike L c)).sum) ∘ lanN L) = (List.range L.length).map fun i => dec (lens L) i * 2 ^ exB L :=
    List.map_congr_left fun i hi => el_sum o.nd (by simpa using hi)
  rw [lanes_range L, e]
  have hl : L.length = (lens L).length := by simp [lens]
  have hs := mn_rec (ls := lens L) (by rw [lens_sum]; exact fun z => h (List.length_eq_zero_iff.1 z))
  unfold cnt
  rw [← hs, hl]
  generalize List.range (lens L).length = js
  clear hs e
  induction js with
  | nil => simp
  | cons j js ih => simp only [List.map_cons, List.sum_cons, ih, Nat.add_mul]
theorem bos_len {r : Nat} : ∀ (n : Nat) {L : Lanes}, Ok r L → L.flatten.length = n → (bos n L).length = cnt L * 2 ^ exB L
  | 0, L, o, hn => by
    have he := exB_flat L
    rw [at_zero hn, show exB L = 0 from by omega]
    rfl
  | n + 1, L, o, hn => by
    have hne : L.flatten ≠ [] := fun e => by rw [e] at hn; simp at hn
    rw [← both_rec o hne, bos, List.length_flatMap]
    congr 1
    refine List.map_congr_left fun c hc => ?_
    have hm := sides_flat (mem_endsL.1 hc)
    rw [List.length_map, bos_len n (o.strike c) (by have := strike_tot o.nd hm; omega)]
end CY

namespace CY
open CL
/-! ### every order is found; the first order at both ends -/
theorem cont_mem {known : List Nat} (nd : known.Nodup) : ∀ (n : Nat) {p t : List Nat}, (known.filter fun c => !decide (c ∈ p)).length = n → t.Perm (known.filter fun c => !decide (c ∈ p)) → t ∈ cont known n p
  | 0, p, t, hn, h => by
    rw [List.length_eq_zero_iff.1 hn] at h
    rw [h.eq_nil]
    simp [cont]
  | n + 1, p, t, hn, h => by
    cases t with
    | nil =>
      have := h.length_eq
      rw [hn] at this
      simp at this
    | cons c t =>
      have hc : c ∈ known.filter fun c => !decide (c ∈ p) := h.mem_iff.1 (by simp)
      have pm := perm_out (nd.filter (fun c => !decide (c ∈ p))) hc
      have e := filter_more known p c
      have h2 : t.Perm (known.filter fun x => !decide (x ∈ p ++ [c])) := by
        rw [e]
        exact (List.perm_cons c).1 (h.trans pm.symm)
      rw [cont, List.mem_flatMap]
      refine ⟨c, hc, List.mem_map.2 ⟨t, cont_mem nd n ?_ h2, rfl⟩⟩
      have := h2.length_eq
      have h3 := h.length_eq
      rw [hn, List.length_cons] at h3
      omega
theorem ords_mem {kn : List Nat} (nd : kn.Nodup) {s : List Nat} (h : s.Perm kn) : s ∈ ords kn := by
  have e : (kn.filter fun c => !decide (c ∈ ([] : List Nat))) = kn := by simp
  rw [ords_cont]
  exact cont_mem nd kn.length (by rw [e]) (by rw [e]; exact h)
theorem ords_perm' {kn : List Nat} (nd : kn.Nodup) {s : List Nat} (h : s ∈ ords kn) : s.Perm kn := by
  rw [ords_cont] at h
  have e : (kn.filter fun c => !decide (c ∈ ([] : List Nat))) = kn := by simp
  have := cont_perm nd kn.length (p := []) (t := s) (by rw [e]) h
  rw [e] at this
  exact this
theorem ords_n6 {kn : List Nat} (hk : kn.length ≤ 6) : (ords kn).length ≤ 46656 := by
  have key : ∀ (n : Nat) (fs : List (List Nat)), (rounds kn n fs).length ≤ fs.length * 6 ^ n := by
    intro n
    induction n with
    | zero => intro fs; simp [rounds]
    | succ n ih =>
      intro fs
      have h1 := ih (longer kn fs)
      have h2 := Nat.le_trans (longer_len kn fs) (Nat.mul_le_mul_left fs.length hk)
      rw [Nat.pow_succ, Nat.mul_comm (6 ^ n) 6, ← Nat.mul_assoc]
      exact Nat.le_trans h1 (Nat.mul_le_mul_right _ h2)
  have h := key kn.length [[]]
  have h5 : (6 : Nat) ^ kn.length ≤ 6 ^ 6 := Nat.pow_le_pow_right (by decide) hk
  have e : (6 : Nat) ^ 6 = 46656 := by decide
  unfold ords
  simp at h
  omega
theorem srt_self {l : List Nat} (h : l.Pairwise (· < ·)) : srt l = l :=
  strict_ext (srt_strict (h.imp (fun a => Nat.ne_of_lt a))) h fun x => mem_srt
theorem ends_ne {r : Nat} {L : Lanes} (h : L.flatten ≠ []) : endsL L ≠ [] := by
  intro e
  apply h
  rw [List.eq_nil_iff_forall_not_mem]
  intro c hc
  obtain ⟨l, hl, hcl⟩ := List.mem_flatten.1 hc
  have hne : l ≠ [] := fun z => by rw [z] at hcl; simp at hcl
  have : topOf l ∈ endsL L := by
    rw [mem_endsL]
    unfold sides nes
    exact List.mem_append.2 (.inl (List.mem_map.2 ⟨l, List.mem_filter.2 ⟨hl, by simpa using hne⟩, rfl⟩))
  rw [e] at this
  simp at this
theorem ends_len {r : Nat} {L : Lanes} (o : Ok r L) : (endsL L).length ≤ 16 := by
  have h1 := (ends_perm o).length_eq
  have h2 := (flatMap_el_sub L).length_le
  have h3 := o.tot
  omega
def gr : Nat → Lanes → List Nat
  | 0, _ => []
  | n + 1, L => match endsL L with
    | [] => []
    | c :: _ => c :: gr n (strike L c)
theorem bos_head {r : Nat} : ∀ (n : Nat) {L : Lanes}, Ok r L → L.flatten.length = n → ∃ t, bos n L = gr n L :: t
  | 0, L, _, _ => ⟨[], rfl⟩
  | n + 1, L, o, hn => by
    have hne : L.flatten ≠ [] := fun e => by rw [e] at hn; simp at hn
    have he := ends_ne (r := r) hne
    cases e : endsL L with
    | nil => exact absurd e he
    | cons c cs =>
      have hm : c ∈ L.flatten := sides_flat (mem_endsL.1 (by rw [e]; simp))
      obtain ⟨t, h⟩ := bos_head n (o.strike c) (by have := strike_tot o.nd hm; omega)
      rw [bos, gr, e]
      simp only
      rw [List.flatMap_cons, h]
      exact ⟨_, rfl⟩
end CY

set_option maxHeartbeats 4000000
/-! what each def computes; printed by gen.py -/
namespace K53
open PySem PySem.Spec PyProof.Rows L2 CL
def top (i : Nat) : Stmt := PySem.Challenge.pw_carlanes_k53_whole_doubled.main.body.getD i (.Pass ⟨0, 0, 0, 0⟩)
/-- is_int(value, least, most); slots 0 value, 1 least, 2 most -/
def m_is_int : DEnv → Out := (retS (andV (isiV .int (getV 0)) (andV (notV (isiV .bool (getV 0))) (chn D.le D.le (getV 1) (getV 0) (getV 2)))))
def F_is_int : List D → R D := runF 3 3 (m_is_int)
/-- is_lane(value, room); slots 0 value, 1 room, 2 sign -/
def q_is_lane_1 : DEnv → R D := (lcV [2] (strOf (getV 0)) (put 2) yesT (bin D.isin (getV 2) (cst (.str [97, 98, 99, 100, 101, 102, 103, 104]))))
def m_is_lane : DEnv → Out := (retS (andV (isiV .str (getV 0)) (andV (bin D.le (app D.len (consA (getV 0) nilA)) (getV 1)) (app D.all (consA q_is_lane_1 nilA)))))
def F_is_lane : List D → R D := runF 2 3 (m_is_lane)
/-- is_yard(candidate); slots 0 candidate, 1 room, 2 lanes, 3 known, 4 lane -/
def t_is_yard_1 : DEnv → R Bool := (orT (notT (tst (isiV .tuple (getV 0)))) (orT (tst (bin D.ne (app D.len (consA (getV 0) nilA)) (cst (.int 2)))) (notT (tst (callV F_is_int (consA (bin D.ix (getV 0) (cst (.int 0))) (consA (cst (.int 1)) (consA (cst (.int 4)) nilA))))))))
def t_is_yard_2 : DEnv → R Bool := (orT (notT (tst (isiV .tuple (getV 2)))) (notT (tst (chn D.le D.le (cst (.int 1)) (app D.len (consA (getV 2) nilA)) (cst (.int 4))))))
def q_is_yard_1 : DEnv → R D := (lcV [4] (tupOf (getV 2)) (put 4) yesT (callV F_is_lane (consA (getV 4) (consA (getV 1) nilA))))
def t_is_yard_3 : DEnv → R Bool := (notT (tst (app D.all (consA q_is_yard_1 nilA))))
def m_is_yard : DEnv → Out := (seqS (ifS t_is_yard_1 (retS (cst (.bl false))) Out.nxt) (seqS (unp2S 1 2 (getV 0)) (seqS (ifS t_is_yard_2 (retS (cst (.bl false))) Out.nxt) (seqS (ifS t_is_yard_3 (retS (cst (.bl false))) Out.nxt) (seqS (setS 3 (meth "str" D.join (cst (.str [])) (consA (getV 2) nilA))) (retS (bin D.eq (lenSet (getV 3)) (app D.len (consA (getV 3) nilA)))))))))
def F_is_yard : List D → R D := runF 1 5 (m_is_yard)
/-- check_yard(value); slots 0 value -/
def t_check_yard_1 : DEnv → R Bool := (notT (tst (callV F_is_yard (consA (getV 0) nilA))))
def m_check_yard : DEnv → Out := (ifS t_check_yard_1 (Out.exc 1) Out.nxt)
def F_check_yard : List D → R D := runF 1 1 (m_check_yard)
/-- find_count(yard); slots 0 yard, 1 found, 2 many, 3 lane, 4 place -/
def b_find_count_1 : DEnv → Out := (seqS (setS 2 (bin D.add (getV 2) (cst (.int 1)))) (setS 1 (bin D.fdivW (bin D.mul (getV 1) (getV 2)) (bin D.add (getV 4) (cst (.int 1))))))
def b_find_count_2 : DEnv → Out := (forS (rng1 (consA (app D.len (consA (getV 3) nilA)) nilA)) (put 4) b_find_count_1)
def m_find_count : DEnv → Out := (seqS (par2S 1 2 (consA (cst (.int 1)) (consA (cst (.int 0)) nilA))) (seqS (forS (tupOf (bin D.ix (getV 0) (cst (.int 1)))) (put 3) b_find_count_2) (retS (getV 1))))
def F_find_count : List D → R D := runF 1 5 (m_find_count)
/-- count_free(yard); slots 0 yard -/
def m_count_free : DEnv → Out := (seqS (exprS (callV F_check_yard (consA (getV 0) nilA))) (retS (callV F_find_count (consA (getV 0) nilA))))
def F_count_free : List D → R D := runF 1 1 (m_count_free)
/-- ends(lanes); slots 0 lanes, 1 found, 2 lane -/
def q_ends_1 : DEnv → R D := (lcV [2] (tupOf (getV 0)) (put 2) (tst (bin D.ne (getV 2) (cst (.str [])))) (bin D.ix (getV 2) (cst (.int 0))))
def q_ends_2 : DEnv → R D := (lcV [2] (tupOf (getV 0)) (put 2) (tst (bin D.ne (getV 2) (cst (.str [])))) (bin D.ix (getV 2) (negV (cst (.int 1)))))
def m_ends : DEnv → Out := (seqS (setS 1 (bin D.add q_ends_1 q_ends_2)) (retS (sortSetS (getV 1))))
def F_ends : List D → R D := runF 1 3 (m_ends)
/-- free_both(yard); slots 0 yard -/
def m_free_both : DEnv → Out := (seqS (exprS (callV F_check_yard (consA (getV 0) nilA))) (retS (meth "str" D.join (cst (.str [])) (consA (callV F_ends (consA (bin D.ix (getV 0) (cst (.int 1))) nilA)) nilA))))
def F_free_both : List D → R D := runF 1 1 (m_free_both)
/-- find_cars(yard); slots 0 yard -/
def m_find_cars : DEnv → Out := (retS (meth "str" D.join (cst (.str [])) (consA (app D.sorted (consA (meth "str" D.join (cst (.str [])) (consA (bin D.ix (getV 0) (cst (.int 1))) nilA)) nilA)) nilA)))
def F_find_cars : List D → R D := runF 1 1 (m_find_cars)
/-- has_order(known, candidate); slots 0 known, 1 candidate -/
def m_has_order : DEnv → Out := (retS (andV (isiV .str (getV 1)) (bin D.eq (meth "str" D.join (cst (.str [])) (consA (app D.sorted (consA (getV 1) nilA)) nilA)) (getV 0))))
def F_has_order : List D → R D := runF 2 2 (m_has_order)
/-- drop(lanes, car); slots 0 lanes, 1 car, 2 lane -/
def q_drop_1 : DEnv → R D := (lcV [2] (tupOf (getV 0)) (put 2) yesT (bin D.strike (getV 2) (getV 1)))
def m_drop : DEnv → Out := (retS (tupOfV q_drop_1))
def F_drop : List D → R D := runF 2 3 (m_drop)
/-- is_both(yard, order); slots 0 yard, 1 order, 2 lanes, 3 car -/
def t_is_both_1 : DEnv → R Bool := (notT (tst (callV F_has_order (consA (callV F_find_cars (consA (getV 0) nilA)) (consA (getV 1) nilA)))))
def t_is_both_2 : DEnv → R Bool := (tst (bin D.notinL (getV 3) (callV F_ends (consA (getV 2) nilA))))
def b_is_both_1 : DEnv → Out := (ifRet t_is_both_2 (retS (cst (.bl false))) (seqS (setS 2 (callV F_drop (consA (getV 2) (consA (getV 3) nilA)))) Out.nxt))
def m_is_both : DEnv → Out := (seqS (exprS (callV F_check_yard (consA (getV 0) nilA))) (seqS (ifS t_is_both_1 (Out.exc 2) Out.nxt) (seqS (setS 2 (bin D.ix (getV 0) (cst (.int 1)))) (seqS (forS (strOf (getV 1)) (put 3) b_is_both_1) (retS (cst (.bl true)))))))
def F_is_both : List D → R D := runF 2 4 (m_is_both)
/-- find_both(yard); slots 0 yard, 1 lane -/
def q_find_both_1 : DEnv → R D := (lcV [1] (tupOf (bin D.ix (getV 0) (cst (.int 1)))) (put 1) (tst (bin D.ne (getV 1) (cst (.str [])))) (bin D.sub (app D.len (consA (getV 1) nilA)) (cst (.int 1))))
def m_find_both : DEnv → Out := (retS (bin D.shl (callV F_find_count (consA (getV 0) nilA)) (app D.sum (consA q_find_both_1 nilA))))
def F_find_both : List D → R D := runF 1 2 (m_find_both)
/-- count_both(yard); slots 0 yard -/
def m_count_both : DEnv → Out := (seqS (exprS (callV F_check_yard (consA (getV 0) nilA))) (retS (callV F_find_both (consA (getV 0) nilA))))
def F_count_both : List D → R D := runF 1 1 (m_count_both)
/-- first_both(yard); slots 0 yard, 1 lanes, 2 found, 3 car -/
def t_first_both_1 : DEnv → R Bool := (tst (bin D.ne (callV F_ends (consA (getV 1) nilA)) (lstV nilA)))
def b_first_both_1 : DEnv → Out := (seqS (setS 3 (headOf F_ends 1)) (par2S 1 2 (consA (callV F_drop (consA (getV 1) (consA (getV 3) nilA))) (consA (bin D.add (getV 2) (getV 3)) nilA))))
def m_first_both : DEnv → Out := (seqS (exprS (callV F_check_yard (consA (getV 0) nilA))) (seqS (par2S 1 2 (consA (bin D.ix (getV 0) (cst (.int 1))) (consA (cst (.str [])) nilA))) (seqS (whileL t_first_both_1 b_first_both_1 20) (retS (getV 2)))))
def F_first_both : List D → R D := runF 1 4 (m_first_both)
/-- gained(yard); slots 0 yard -/
def m_gained : DEnv → Out := (seqS (exprS (callV F_check_yard (consA (getV 0) nilA))) (retS (bin D.sub (callV F_find_both (consA (getV 0) nilA)) (callV F_find_count (consA (getV 0) nilA)))))
def F_gained : List D → R D := runF 1 1 (m_gained)
/-- _law_pick(script, k, many); slots 0 script, 1 k, 2 many, 3 cell, 4 rest, 5 again, 6 drawn -/
def t__law_pick_1 (ns : List Int) : DEnv → R Bool := (andT (tst (bin D.gt (getV 4) (cst (.int 0)))) (tst (bin D.gt (getV 5) (cst (.int 0)))))
def b__law_pick_1 (ns : List Int) : DEnv → Out := (par2S 4 5 (consA (bin D.fdivW (getV 4) (cst (.int 840))) (consA (bin D.sub (getV 5) (cst (.int 1))) nilA)))
def t__law_pick_2 (ns : List Int) : DEnv → R Bool := (tst (bin D.gt (getV 4) (cst (.int 0))))
def m__law_pick (ns : List Int) : DEnv → Out := (seqS (setS 3 (ifV (tst (bin (D.neS ns) (getV 0) (lstV nilA))) (bin (D.ixS ns) (getV 0) (bin D.mod (getV 1) (app (D.lenS ns) (consA (getV 0) nilA)))) (cst (.int 0)))) (seqS (par2S 4 5 (consA (bin D.fdivW (getV 3) (bin D.pow (cst (.int 10)) (cst (.int 18)))) (consA (bin D.fdivW (getV 1) (app D.max2 (consA (app (D.lenS ns) (consA (getV 0) nilA)) (consA (cst (.int 1)) nilA)))) nilA))) (seqS (whileL (t__law_pick_1 ns) (b__law_pick_1 ns) 256) (seqS (ifS (t__law_pick_2 ns) (retS (bin D.mod (bin D.mod (getV 4) (cst (.int 840))) (getV 2))) Out.nxt) (seqS (setS 6 (bin D.mod (bin D.mul (bin D.add (bin D.mul (getV 3) (cst (.int 31))) (bin D.mul (cst (.int 6151)) (bin D.add (getV 1) (cst (.int 1))))) (cst (.int 40692))) (cst (.int 2147483399)))) (retS (bin D.mod (bin D.mod (bin D.add (bin D.mul (getV 6) (getV 6)) (bin D.fdivW (getV 6) (cst (.int 31)))) (cst (.int 2147483629))) (getV 2))))))))
def F__law_pick (ns : List Int) : List D → R D := runF 3 7 (m__law_pick ns)
/-- _law_park(script, at, most); slots 0 script, 1 at, 2 most, 3 room, 4 lanes, 5 rest, 6 lane, 7 car, 8 k -/
def t__law_park_1 (ns : List Int) : DEnv → R Bool := (tst (bin D.lt (app D.len (consA (bin D.ix (getV 4) (getV 6)) nilA)) (getV 3)))
def b__law_park_1 (ns : List Int) : DEnv → Out := (seqS (setS 6 (callV (F__law_pick ns) (consA (getV 0) (consA (bin D.add (bin D.add (getV 1) (cst (.int 3))) (bin D.mul (cst (.int 2)) (getV 8))) (consA (app D.len (consA (getV 4) nilA)) nilA))))) (seqS (popS 5 7 (callV (F__law_pick ns) (consA (getV 0) (consA (bin D.add (bin D.add (getV 1) (cst (.int 4))) (bin D.mul (cst (.int 2)) (getV 8))) (consA (app D.len (consA (getV 5) nilA)) nilA))))) (ifS (t__law_park_1 ns) (itemS 4 (bin D.add (bin D.ix (getV 4) (getV 6)) (getV 7)) (getV 6)) Out.nxt)))
def m__law_park (ns : List Int) : DEnv → Out := (seqS (par2S 3 4 (consA (bin D.add (cst (.int 1)) (callV (F__law_pick ns) (consA (getV 0) (consA (getV 1) (consA (cst (.int 4)) nilA))))) (consA (bin D.rep (lstV (consA (cst (.str [])) nilA)) (bin D.add (cst (.int 1)) (callV (F__law_pick ns) (consA (getV 0) (consA (bin D.add (getV 1) (cst (.int 1))) (consA (cst (.int 4)) nilA)))))) nilA))) (seqS (setS 5 (cutN (app D.listS (consA (cst (.str [97, 98, 99, 100, 101, 102, 103, 104])) nilA)) noP (inP (getV 2)))) (seqS (forS (rng1 (consA (callV (F__law_pick ns) (consA (getV 0) (consA (bin D.add (getV 1) (cst (.int 2))) (consA (bin D.add (getV 2) (cst (.int 1))) nilA)))) nilA)) (put 8) (b__law_park_1 ns)) (retS (tupV (consA (getV 3) (consA (tupOfV (getV 4)) nilA)))))))
def F__law_park (ns : List Int) : List D → R D := runF 3 9 (m__law_park ns)
/-- _law_orders(signs); slots 0 signs, 1 found, 2 longer, 3 k, 4 begun, 5 car -/
def q__law_orders_1 : DEnv → R D := (lcV [5] (lstOf (app D.sorted (consA (getV 0) nilA))) (put 5) (tst (bin D.notin (getV 5) (getV 4))) (bin D.add (getV 4) (getV 5)))
def b__law_orders_1 : DEnv → Out := (extS 2 q__law_orders_1)
def b__law_orders_2 : DEnv → Out := (seqS (setS 2 (lstV nilA)) (seqS (forS (lstOf (getV 1)) (put 4) b__law_orders_1) (setS 1 (getV 2))))
def m__law_orders : DEnv → Out := (seqS (setS 1 (lstV (consA (cst (.str [])) nilA))) (seqS (forS (rng1 (consA (app D.len (consA (getV 0) nilA)) nilA)) (put 3) b__law_orders_2) (retS (getV 1))))
def F__law_orders : List D → R D := runF 1 6 (m__law_orders)
/-- _law_goes(lanes, order, is_double); slots 0 lanes, 1 order, 2 is_double, 3 sides, 4 car, 5 lane -/
def q__law_goes_1 : DEnv → R D := (lcV [5] (tupOf (getV 0)) (put 5) (tst (bin D.ne (getV 5) (cst (.str [])))) (bin D.ix (getV 5) (negV (cst (.int 1)))))
def t__law_goes_1 : DEnv → R Bool := (tst (getV 2))
def q__law_goes_2 : DEnv → R D := (lcV [5] (tupOf (getV 0)) (put 5) (tst (bin D.ne (getV 5) (cst (.str [])))) (bin D.ix (getV 5) (cst (.int 0))))
def t__law_goes_2 : DEnv → R Bool := (tst (bin D.notinL (getV 4) (getV 3)))
def q__law_goes_3 : DEnv → R D := (lcV [5] (tupOf (getV 0)) (put 5) yesT (bin D.strike (getV 5) (getV 4)))
def b__law_goes_1 : DEnv → Out := (seqS (setS 3 q__law_goes_1) (seqS (ifS t__law_goes_1 (setS 3 (bin D.addLL (getV 3) q__law_goes_2)) Out.nxt) (seqS (ifS t__law_goes_2 (retS (cst (.bl false))) Out.nxt) (setS 0 (tupOfV q__law_goes_3)))))
def m__law_goes : DEnv → Out := (seqS (forS (strOf (getV 1)) (put 4) b__law_goes_1) (retS (cst (.bl true))))
def F__law_goes : List D → R D := runF 3 6 (m__law_goes)
/-- law(script); slots 0 script, 1 yard, 2 lanes, 3 known, 4 sides, 5 good, 6 simple, 7 fits, 8 some, 9 order, 10 i, 11 many, 12 k, 13 lane -/
def q_law_1 (ns : List Int) : DEnv → R D := (lcV [13] (tupOf (getV 2)) (put 13) (tst (bin D.ne (getV 13) (cst (.str [])))) (bin D.ix (getV 13) (cst (.int 0))))
def q_law_2 (ns : List Int) : DEnv → R D := (lcV [13] (tupOf (getV 2)) (put 13) (tst (bin D.ne (getV 13) (cst (.str [])))) (bin D.ix (getV 13) (negV (cst (.int 1)))))
def t_law_1 (ns : List Int) : DEnv → R Bool := (tst (bin D.ne (callV F_free_both (consA (getV 1) nilA)) (meth "str" D.join (cst (.str [])) (consA (sortSetS (getV 4)) nilA))))
def t_law_2 (ns : List Int) : DEnv → R Bool := (tst (getV 7))
def b_law_1 (ns : List Int) : DEnv → Out := (seqS (setS 7 (callV F__law_goes (consA (getV 2) (consA (getV 9) (consA (cst (.bl true)) nilA))))) (seqS (setS 6 (bin D.add (getV 6) (ifV (tst (callV F__law_goes (consA (getV 2) (consA (getV 9) (consA (cst (.bl false)) nilA))))) (cst (.int 1)) (cst (.int 0))))) (ifS (t_law_2 ns) (appS 5 (getV 9)) Out.nxt)))
def t_law_3 (ns : List Int) : DEnv → R Bool := (orT (tst (bin D.ne (callV F_count_both (consA (getV 1) nilA)) (app D.len (consA (getV 5) nilA)))) (orT (tst (bin D.ne (callV F_gained (consA (getV 1) nilA)) (bin D.sub (app D.len (consA (getV 5) nilA)) (getV 6)))) (tst (bin D.ne (callV F_count_free (consA (getV 1) nilA)) (getV 6)))))
def t_law_4 (ns : List Int) : DEnv → R Bool := (tst (bin D.ne (callV F_first_both (consA (getV 1) nilA)) (bin D.ix (getV 5) (cst (.int 0)))))
def t_law_5 (ns : List Int) : DEnv → R Bool := (tst (bin D.eq (getV 12) (cst (.int 0))))
def t_law_6 (ns : List Int) : DEnv → R Bool := (tst (bin D.ne (callV F_is_both (consA (getV 1) (consA (getV 9) nilA))) (bin D.isin (getV 9) (getV 5))))
def b_law_2 (ns : List Int) : DEnv → Out := (seqS (setS 8 (callV F__law_orders (consA (cutW (getV 3) noP (inP (cst (.int 3)))) nilA))) (seqS (setS 9 (bin D.add (bin D.ix (getV 8) (callV (F__law_pick ns) (consA (getV 0) (consA (bin D.add (bin D.add (bin D.mul (cst (.int 40)) (getV 10)) (cst (.int 25))) (getV 12)) (consA (app D.len (consA (getV 8) nilA)) nilA))))) (meth "str" D.join (cst (.str [])) (consA (cutW (getV 3) (inP (cst (.int 3))) noP) nilA)))) (seqS (ifS (t_law_5 ns) (setS 9 (bin D.ix (getV 5) (callV (F__law_pick ns) (consA (getV 0) (consA (bin D.add (bin D.mul (cst (.int 40)) (getV 10)) (cst (.int 30))) (consA (app D.len (consA (getV 5) nilA)) nilA)))))) Out.nxt) (ifS (t_law_6 ns) (retS (cst (.bl false))) Out.nxt))))
def b_law_3 (ns : List Int) : DEnv → Out := (seqS (setS 1 (callV (F__law_park ns) (consA (getV 0) (consA (bin D.mul (cst (.int 40)) (getV 10)) (consA (cst (.int 6)) nilA))))) (seqS (setS 2 (bin D.ix (getV 1) (cst (.int 1)))) (seqS (setS 3 (app D.sorted (consA (meth "str" D.join (cst (.str [])) (consA (getV 2) nilA)) nilA))) (seqS (setS 4 (bin D.add (q_law_1 ns) (q_law_2 ns))) (seqS (ifS (t_law_1 ns) (retS (cst (.bl false))) Out.nxt) (seqS (par2S 5 6 (consA (lstV nilA) (consA (cst (.int 0)) nilA))) (seqS (forS (lstOf (callV F__law_orders (consA (getV 3) nilA))) (put 9) (b_law_1 ns)) (seqS (ifS (t_law_3 ns) (retS (cst (.bl false))) Out.nxt) (seqS (ifS (t_law_4 ns) (retS (cst (.bl false))) Out.nxt) (seqS (forS (rng1 (consA (cst (.int 4)) nilA)) (put 12) (b_law_2 ns)) Out.nxt))))))))))
def t_law_7 (ns : List Int) : DEnv → R Bool := (tst (bin D.ne (callV F_count_both (consA (tupV (consA (cst (.int 4)) (consA (tupV (consA (cutW (cst (.str [97, 98, 99, 100])) noP (inP (getV 11))) nilA)) nilA))) nilA)) (bin D.ix (lstV (consA (cst (.int 1)) (consA (cst (.int 2)) (consA (cst (.int 4)) (consA (cst (.int 8)) nilA))))) (bin D.sub (getV 11) (cst (.int 1))))))
def b_law_4 (ns : List Int) : DEnv → Out := (ifS (t_law_7 ns) (retS (cst (.bl false))) Out.nxt)
def m_law (ns : List Int) : DEnv → Out := (seqS (forS (rng1 (consA (cst (.int 3)) nilA)) (put 10) (b_law_3 ns)) (seqS (forS (tupOf (tupV (consA (cst (.int 1)) (consA (cst (.int 2)) (consA (cst (.int 3)) (consA (cst (.int 4)) nilA)))))) (put 11) (b_law_4 ns)) (retS (andV (bin D.eq (callV F_count_both (consA (tupV (consA (cst (.int 3)) (consA (tupV (consA (cst (.str [97, 98, 99])) (consA (cst (.str [100])) (consA (cst (.str [])) nilA)))) nilA))) nilA)) (cst (.int 16))) (bin D.eq (callV F_first_both (consA (tupV (consA (cst (.int 3)) (consA (tupV (consA (cst (.str [97, 98, 99])) (consA (cst (.str [100])) (consA (cst (.str [])) nilA)))) nilA))) nilA)) (cst (.str [97, 98, 99, 100])))))))
def F_law (ns : List Int) : List D → R D := runF 1 14 (m_law ns)
structure Tx (M : Md) : Prop where
  b_all : M.mg "all" = none
  b_bool : M.mg "bool" = none
  b_int : M.mg "int" = none
  b_isinstance : M.mg "isinstance" = none
  b_len : M.mg "len" = none
  b_list : M.mg "list" = none
  b_max : M.mg "max" = none
  b_range : M.mg "range" = none
  b_set : M.mg "set" = none
  b_sorted : M.mg "sorted" = none
  b_str : M.mg "str" = none
  b_sum : M.mg "sum" = none
  b_tuple : M.mg "tuple" = none
  g_LETTERS : ∃ t, M.mg "LETTERS" = some (.str "abcdefgh" t)
  g_MAX_LANES : ∃ t, M.mg "MAX_LANES" = some (.int 4 t)
  g_MAX_ROOM : ∃ t, M.mg "MAX_ROOM" = some (.int 4 t)
  x_InvalidOrder : XF M "InvalidOrder" 2
  x_InvalidYard : XF M "InvalidYard" 1
section
variable {P : Program} {w : World} {M : Md} {base : Heap}
theorem sc_is_int : FnScope ["value", "least", "most"] ["value", "least", "most"] (defScope (top 8)) := ⟨rfl, rfl, rfl, by decide +kernel, rfl, by decide +kernel, by decide +kernel⟩
theorem ok_is_int (T : Tx M) {fa : Addr} {fd : FuncData} (hmg : M.mg "is_int" = some (.ref fa)) (F : Fun M.K "is_int" "is_int" (top 8) fa fd) (hb : Binds M.K fd ["value", "least", "most"] [])  : FnD P w M base 1 "is_int" F_is_int := by
  exact fn_mk (O' := []) hmg F sc_is_int hb (fun cdv A outer s H E hr F0 => (ss_one (ss_ret (sd_and (sd_isi .int T.b_isinstance T.b_int (by decide +kernel) (sb_var 0)) (sd_and (sd_not (sd_isi .bool T.b_isinstance T.b_bool (by decide +kernel) (sb_var 0))) (sd_one (sd_chain od_le od_le (sb_var 1) (sb_var 0) (sb_var 2))))))))
theorem sc_is_lane : FnScope ["value", "room", "sign"] ["value", "room"] (defScope (top 9)) := ⟨rfl, rfl, rfl, by decide +kernel, rfl, by decide +kernel, by decide +kernel⟩
theorem ok_is_lane (T : Tx M) {fa : Addr} {fd : FuncData} (hmg : M.mg "is_lane" = some (.ref fa)) (F : Fun M.K "is_lane" "is_lane" (top 9) fa fd) (hb : Binds M.K fd ["value", "room"] [])  : FnD P w M base 1 "is_lane" F_is_lane := by
  obtain ⟨t_LETTERS, g_LETTERS⟩ := T.g_LETTERS
  exact fn_mk (O' := []) hmg F sc_is_lane hb (fun cdv A outer s H E hr F0 => (ss_one (ss_ret (sd_and (sd_isi .str T.b_isinstance T.b_str (by decide +kernel) (sb_var 0)) (sd_and (sd_cmp od_le (sb (sd_callB cd_len T.b_len (by decide +kernel) (sa_cons (sb_var 0) sa_nil))) (sb_var 1)) (sd_one (sd_callB (cd_all rfl) T.b_all (by decide +kernel) (sa_cons (sb (sd_lc rfl sc_is_lane.nd (si_str (sd_var 0)) (blkOk_by (own := [("sign", 2)]) (by kernel_rfl)) rfl (fun _ _ _ _ _ => (sg_name 2 sc_is_lane.nd)) (fun _ _ _ _ _ => st_nil) (fun _ _ _ _ _ => (sd_cmp (od_in hr.units) (sb_var 2) (sb (sd_gstr [97, 98, 99, 100, 101, 102, 103, 104] g_LETTERS)))))) sa_nil))))))))
theorem sc_is_yard : FnScope ["candidate", "room", "lanes", "known", "lane"] ["candidate"] (defScope (top 10)) := ⟨rfl, rfl, rfl, by decide +kernel, rfl, by decide +kernel, by decide +kernel⟩
theorem ok_is_yard (T : Tx M) {fa : Addr} {fd : FuncData} (hmg : M.mg "is_yard" = some (.ref fa)) (F : Fun M.K "is_yard" "is_yard" (top 10) fa fd) (hb : Binds M.K fd ["candidate"] []) (K_is_int : FnD P w M base 1 "is_int" F_is_int) (K_is_lane : FnD P w M base 1 "is_lane" F_is_lane) : FnD P w M base 2 "is_yard" F_is_yard := by
  obtain ⟨t_MAX_LANES, g_MAX_LANES⟩ := T.g_MAX_LANES
  obtain ⟨t_MAX_ROOM, g_MAX_ROOM⟩ := T.g_MAX_ROOM
  exact fn_mk (O' := []) hmg F sc_is_yard hb (fun cdv A outer s H E hr F0 => (ss_cons (ss_if (PW.pt (st_or (st_not (st_val (sd_isi .tuple T.b_isinstance T.b_tuple (by decide +kernel) (sb_var 0)))) (st_or (st_cmp (od_ne hr.units) (sb (sd_callB cd_len T.b_len (by decide +kernel) (sa_cons (sb_var 0) sa_nil))) (sb sd_int)) (st_or1 (st_not (st_val (sd_call K_is_int ⟨rfl, rfl⟩ (hr.mono (by decide)) (takes_of rfl rfl rfl rfl) (sa_cons (sd_ix od_ix (sb_var 0) (sb sd_int)) (sa_cons sd_int (sa_cons (sd_gint 4 g_MAX_ROOM) sa_nil)))))))))) (ss_one (ss_ret sd_bl)) ss_nil) (ss_cons (ss_unp2 1 2 rfl sc_is_yard.nd (sd_var 0)) (ss_cons (ss_if (PW.pt (st_or (st_not (st_val (sd_isi .tuple T.b_isinstance T.b_tuple (by decide +kernel) (sb_var 2)))) (st_or1 (st_not (st_chain od_le od_le (sb sd_int) (sb (sd_callB cd_len T.b_len (by decide +kernel) (sa_cons (sb_var 2) sa_nil))) (sb (sd_gint 4 g_MAX_LANES))))))) (ss_one (ss_ret sd_bl)) ss_nil) (ss_cons (ss_if (st_not (st_val (sd_callB (cd_all rfl) T.b_all (by decide +kernel) (sa_cons (sb (sd_lc rfl sc_is_yard.nd (si_tup (sd_var 2)) (blkOk_by (own := [("lane", 4)]) (by kernel_rfl)) rfl (fun _ _ _ _ _ => (sg_name 4 sc_is_yard.nd)) (fun _ _ _ _ _ => st_nil) (fun _ _ _ _ _ => (sd_call K_is_lane ⟨rfl, rfl⟩ (hr.mono (by decide)) takes0 (sa_cons (sd_var 4) (sa_cons (sd_var 1) sa_nil)))))) sa_nil)))) (ss_one (ss_ret sd_bl)) ss_nil) (ss_cons (ss_set 3 sc_is_yard.nd (sd_meth PySem.F.plainAttrs_str PySem.F.slot_str_join PySem.F.type_str_join md_join (sb (sd_str [])) (sa_cons (sb_var 2) sa_nil))) (ss_one (ss_ret (sd_cmp (od_eq hr.units) (sb (sd_lenSet rfl T.b_len T.b_set (sd_var 3))) (sb (sd_callB cd_len T.b_len (by decide +kernel) (sa_cons (sb_var 3) sa_nil))))))))))))
theorem sc_check_yard : FnScope ["value"] ["value"] (defScope (top 11)) := ⟨rfl, rfl, rfl, by decide +kernel, rfl, by decide +kernel, by decide +kernel⟩
theorem ok_check_yard (T : Tx M) {fa : Addr} {fd : FuncData} (hmg : M.mg "check_yard" = some (.ref fa)) (F : Fun M.K "check_yard" "check_yard" (top 11) fa fd) (hb : Binds M.K fd ["value"] []) (K_is_yard : FnD P w M base 2 "is_yard" F_is_yard) : FnD P w M base 3 "check_yard" F_check_yard := by
  exact fn_mk (O' := []) hmg F sc_check_yard hb (fun cdv A outer s H E hr F0 => (ss_one (ss_if (st_not (st_val (sd_call K_is_yard ⟨rfl, rfl⟩ (hr.mono (by decide)) (takes_of rfl rfl rfl rfl) (sa_cons (sd_var 0) sa_nil)))) (ss_one (ss_raiseX 1 ⟨rfl, rfl⟩ rfl (takes_of rfl rfl rfl rfl) T.x_InvalidYard)) ss_nil)))
theorem sc_find_count : FnScope ["yard", "found", "many", "lane", "place"] ["yard"] (defScope (top 15)) := ⟨rfl, rfl, rfl, by decide +kernel, rfl, by decide +kernel, by decide +kernel⟩
theorem ok_find_count (T : Tx M) {fa : Addr} {fd : FuncData} (hmg : M.mg "find_count" = some (.ref fa)) (F : Fun M.K "find_count" "find_count" (top 15) fa fd) (hb : Binds M.K fd ["yard"] [])  : FnD P w M base 1 "find_count" F_find_count := by
  exact fn_mk (O' := []) hmg F sc_find_count hb (fun cdv A outer s H E hr F0 => (ss_cons (ss_tup2 1 2 rfl sc_find_count.nd (sf_sh sd_int (sf_sh sd_int sf_nil))) (ss_cons (ss_for (passes_of rfl) rfl (si_tup (sd_ix od_ix (sb_var 0) (sb sd_int))) (sg_name 3 sc_find_count.nd) (fun _ _ => (ss_one (ss_for (passes_of rfl) rfl (si_rng1 T.b_range (sa_cons (sb (sd_callB cd_len T.b_len (by decide +kernel) (sa_cons (sb_var 3) sa_nil))) sa_nil)) (sg_name 4 sc_find_count.nd) (fun _ _ => (ss_cons (ss_set 2 sc_find_count.nd (sd_bin od_add (sb_var 2) (sb sd_int))) (ss_one (ss_set 1 sc_find_count.nd (sd_bin od_fdivW (sb (sd_bin od_mul (sb_var 1) (sb_var 2))) (sb (sd_bin od_add (sb_var 4) (sb sd_int)))))))))))) (ss_one (ss_ret (sd_var 1))))))
theorem sc_count_free : FnScope ["yard"] ["yard"] (defScope (top 16)) := ⟨rfl, rfl, rfl, by decide +kernel, rfl, by decide +kernel, by decide +kernel⟩
theorem ok_count_free (T : Tx M) {fa : Addr} {fd : FuncData} (hmg : M.mg "count_free" = some (.ref fa)) (F : Fun M.K "count_free" "count_free" (top 16) fa fd) (hb : Binds M.K fd ["yard"] []) (K_check_yard : FnD P w M base 3 "check_yard" F_check_yard) (K_find_count : FnD P w M base 1 "find_count" F_find_count) : FnD P w M base 4 "count_free" F_count_free := by
  exact fn_mk (O' := []) hmg F sc_count_free hb (fun cdv A outer s H E hr F0 => (ss_cons (ss_expr (sd_call K_check_yard ⟨rfl, rfl⟩ (hr.mono (by decide)) (takes_of rfl rfl rfl rfl) (sa_cons (sd_var 0) sa_nil))) (ss_one (ss_ret (sd_call K_find_count ⟨rfl, rfl⟩ (hr.mono (by decide)) (takes_of rfl rfl rfl rfl) (sa_cons (sd_var 0) sa_nil))))))
theorem sc_ends : FnScope ["lanes", "found", "lane"] ["lanes"] (defScope (top 18)) := ⟨rfl, rfl, rfl, by decide +kernel, rfl, by decide +kernel, by decide +kernel⟩
theorem ok_ends (T : Tx M) {fa : Addr} {fd : FuncData} (hmg : M.mg "ends" = some (.ref fa)) (F : Fun M.K "ends" "ends" (top 18) fa fd) (hb : Binds M.K fd ["lanes"] [])  : FnD P w M base 1 "ends" F_ends := by
  exact fn_mk (O' := []) hmg F sc_ends hb (fun cdv A outer s H E hr F0 => (ss_cons (ss_set 1 sc_ends.nd (sd_bin od_add (sb (sd_lc rfl sc_ends.nd (si_tup (sd_var 0)) (blkOk_by (own := [("lane", 2)]) (by kernel_rfl)) rfl (fun _ _ _ _ _ => (sg_name 2 sc_ends.nd)) (fun _ _ _ _ _ => (st_one (st_cmp (od_ne hr.units) (sb_var 2) (sb (sd_str []))))) (fun _ _ _ _ _ => (sd_ix od_ix (sb_var 2) (sb sd_int))))) (sb (sd_lc rfl sc_ends.nd (si_tup (sd_var 0)) (blkOk_by (own := [("lane", 2)]) (by kernel_rfl)) rfl (fun _ _ _ _ _ => (sg_name 2 sc_ends.nd)) (fun _ _ _ _ _ => (st_one (st_cmp (od_ne hr.units) (sb_var 2) (sb (sd_str []))))) (fun _ _ _ _ _ => (sd_ix od_ix (sb_var 2) (sb (sd_neg sd_int)))))))) (ss_one (ss_ret (sd_sortSetS rfl T.b_sorted T.b_set (sd_var 1))))))
theorem okR_ends (T : Tx M) {fa : Addr} {fd : FuncData} (hmg : M.mg "ends" = some (.ref fa)) (F : Fun M.K "ends" "ends" (top 18) fa fd) (hb : Binds M.K fd ["lanes"] []) : FnR P w M base 1 "ends" := by
  exact fn_mkR hmg F sc_ends hb rfl rfl (fun cdv A outer s H E hr s1 σ a xs I h0 hσ hq hx hl => raw_body (i := 1) (X := cxOf (L2.CX P w) P w M.K M.mg base ["lanes", "found", "lane"] "ends" (defScope (top 18)) fa cdv A outer s H E) rfl sc_ends.nd I h0 (by omega) (raw_add I h0 (by have : (62 : Nat) ≤ sizeLine := (by decide); omega) (fun pins s I h0 => raw_first 0 2 rfl sc_ends.nd I h0 hσ hq hx (blkOk_by (own := [("lane", 2)]) (by kernel_rfl))) (fun pins s I h0 => raw_last 0 2 rfl sc_ends.nd I h0 hσ hq hx (blkOk_by (own := [("lane", 2)]) (by kernel_rfl)))) rfl rfl (by decide) (by decide) rfl T.b_sorted T.b_set rfl rfl rfl rfl (fun _ => rfl) (fun _ => rfl))
theorem sc_free_both : FnScope ["yard"] ["yard"] (defScope (top 20)) := ⟨rfl, rfl, rfl, by decide +kernel, rfl, by decide +kernel, by decide +kernel⟩
theorem ok_free_both (T : Tx M) {fa : Addr} {fd : FuncData} (hmg : M.mg "free_both" = some (.ref fa)) (F : Fun M.K "free_both" "free_both" (top 20) fa fd) (hb : Binds M.K fd ["yard"] []) (K_check_yard : FnD P w M base 3 "check_yard" F_check_yard) (K_ends : FnD P w M base 1 "ends" F_ends) : FnD P w M base 4 "free_both" F_free_both := by
  exact fn_mk (O' := []) hmg F sc_free_both hb (fun cdv A outer s H E hr F0 => (ss_cons (ss_expr (sd_call K_check_yard ⟨rfl, rfl⟩ (hr.mono (by decide)) (takes_of rfl rfl rfl rfl) (sa_cons (sd_var 0) sa_nil))) (ss_one (ss_ret (sd_meth PySem.F.plainAttrs_str PySem.F.slot_str_join PySem.F.type_str_join md_join (sb (sd_str [])) (sa_cons (sb (sd_call K_ends ⟨rfl, rfl⟩ (hr.mono (by decide)) (takes_of rfl rfl rfl rfl) (sa_cons (sd_ix od_ix (sb_var 0) (sb sd_int)) sa_nil))) sa_nil))))))
theorem sc_find_cars : FnScope ["yard"] ["yard"] (defScope (top 12)) := ⟨rfl, rfl, rfl, by decide +kernel, rfl, by decide +kernel, by decide +kernel⟩
theorem ok_find_cars (T : Tx M) {fa : Addr} {fd : FuncData} (hmg : M.mg "find_cars" = some (.ref fa)) (F : Fun M.K "find_cars" "find_cars" (top 12) fa fd) (hb : Binds M.K fd ["yard"] [])  : FnD P w M base 1 "find_cars" F_find_cars := by
  exact fn_mk (O' := []) hmg F sc_find_cars hb (fun cdv A outer s H E hr F0 => (ss_one (ss_ret (sd_meth PySem.F.plainAttrs_str PySem.F.slot_str_join PySem.F.type_str_join md_join (sb (sd_str [])) (sa_cons (sb (sd_callB (cd_sorted rfl) T.b_sorted (by decide +kernel) (sa_cons (sb (sd_meth PySem.F.plainAttrs_str PySem.F.slot_str_join PySem.F.type_str_join md_join (sb (sd_str [])) (sa_cons (sb (sd_ix od_ix (sb_var 0) (sb sd_int))) sa_nil))) sa_nil))) sa_nil)))))
theorem sc_has_order : FnScope ["known", "candidate"] ["known", "candidate"] (defScope (top 14)) := ⟨rfl, rfl, rfl, by decide +kernel, rfl, by decide +kernel, by decide +kernel⟩
theorem ok_has_order (T : Tx M) {fa : Addr} {fd : FuncData} (hmg : M.mg "has_order" = some (.ref fa)) (F : Fun M.K "has_order" "has_order" (top 14) fa fd) (hb : Binds M.K fd ["known", "candidate"] [])  : FnD P w M base 1 "has_order" F_has_order := by
  exact fn_mk (O' := []) hmg F sc_has_order hb (fun cdv A outer s H E hr F0 => (ss_one (ss_ret (sd_and (sd_isi .str T.b_isinstance T.b_str (by decide +kernel) (sb_var 1)) (sd_one (sd_cmp (od_eq hr.units) (sb (sd_meth PySem.F.plainAttrs_str PySem.F.slot_str_join PySem.F.type_str_join md_join (sb (sd_str [])) (sa_cons (sb (sd_callB (cd_sorted rfl) T.b_sorted (by decide +kernel) (sa_cons (sb_var 1) sa_nil))) sa_nil))) (sb_var 0)))))))
theorem sc_drop : FnScope ["lanes", "car", "lane"] ["lanes", "car"] (defScope (top 19)) := ⟨rfl, rfl, rfl, by decide +kernel, rfl, by decide +kernel, by decide +kernel⟩
theorem ok_drop (T : Tx M) {fa : Addr} {fd : FuncData} (hmg : M.mg "drop" = some (.ref fa)) (F : Fun M.K "drop" "drop" (top 19) fa fd) (hb : Binds M.K fd ["lanes", "car"] [])  : FnDT P w M base 1 "drop" F_drop 1 := by
  exact fn_mkK (O' := []) hmg F sc_drop hb rfl rfl (fun cdv A outer s H E hr F0 => (qs_ret (q_tupleOf T.b_tuple (q_strikes 2 1 rfl sc_drop.nd (fun _ => rfl) (u_var 0) (blkOk_by (own := [("lane", 2)]) (by kernel_rfl)) rfl rfl (fun _ _ _ _ _ => sg_name 2 sc_drop.nd) rfl rfl (fun _ _ => Or.inl rfl) (fun _ _ => rfl) (fun _ _ => by first | exact Or.inl rfl | exact Or.inr rfl) rfl rfl (by decide) (by decide) (by decide) (by decide) (fun _ => rfl) (fun _ => rfl) rfl (fun _ => rfl)))))
theorem sc_is_both : FnScope ["yard", "order", "lanes", "car"] ["yard", "order"] (defScope (top 21)) := ⟨rfl, rfl, rfl, by decide +kernel, rfl, by decide +kernel, by decide +kernel⟩
theorem ok_is_both (T : Tx M) {fa : Addr} {fd : FuncData} (hmg : M.mg "is_both" = some (.ref fa)) (F : Fun M.K "is_both" "is_both" (top 21) fa fd) (hb : Binds M.K fd ["yard", "order"] []) (K_check_yard : FnD P w M base 3 "check_yard" F_check_yard) (K_find_cars : FnD P w M base 1 "find_cars" F_find_cars) (K_has_order : FnD P w M base 1 "has_order" F_has_order) (K_ends : FnD P w M base 1 "ends" F_ends) (K_drop : FnDT P w M base 1 "drop" F_drop 1) : FnD P w M base 4 "is_both" F_is_both := by
  exact fn_mk (O' := []) hmg F sc_is_both hb (fun cdv A outer s H E hr F0 => (ss_cons (ss_expr (sd_call K_check_yard ⟨rfl, rfl⟩ (hr.mono (by decide)) (takes_of rfl rfl rfl rfl) (sa_cons (sd_var 0) sa_nil))) (ss_cons (ss_if (st_not (st_val (sd_call K_has_order ⟨rfl, rfl⟩ (hr.mono (by decide)) (takes_of rfl rfl rfl rfl) (sa_cons (sd_call K_find_cars ⟨rfl, rfl⟩ (hr.mono (by decide)) (takes_of rfl rfl rfl rfl) (sa_cons (sd_var 0) sa_nil)) (sa_cons (sd_var 1) sa_nil))))) (ss_one (ss_raiseX 2 ⟨rfl, rfl⟩ rfl (takes_of rfl rfl rfl rfl) T.x_InvalidOrder)) ss_nil) (qs_out 2 sc_is_both.nd (sd_ix od_ix (sb_var 0) (sb sd_int)) (qs_cons1 (qs_forS 3 (passes_of rfl) rfl sc_is_both.nd (sd_var 1) (fun _ _ => (qs_if (Oa := []) (u_notin hr.units (u_var 3) (u_call K_ends ⟨rfl, rfl⟩ (hr.mono (by decide)) (takes_of rfl rfl rfl rfl) (ua_cons (u_var 2) ua_nil))) (ss_one (ss_ret sd_bl)) (qs_setR 2 sc_is_both.nd (q_call2 2 3 K_drop ⟨rfl, rfl⟩ (hr.mono (by decide)) (takes_of rfl rfl rfl rfl)) ss_nil)))) (PSq.of (ss_one (ss_ret sd_bl))))))))
theorem sc_find_both : FnScope ["yard", "lane"] ["yard"] (defScope (top 22)) := ⟨rfl, rfl, rfl, by decide +kernel, rfl, by decide +kernel, by decide +kernel⟩
theorem ok_find_both (T : Tx M) {fa : Addr} {fd : FuncData} (hmg : M.mg "find_both" = some (.ref fa)) (F : Fun M.K "find_both" "find_both" (top 22) fa fd) (hb : Binds M.K fd ["yard"] []) (K_find_count : FnD P w M base 1 "find_count" F_find_count) : FnD P w M base 2 "find_both" F_find_both := by
  exact fn_mk (O' := []) hmg F sc_find_both hb (fun cdv A outer s H E hr F0 => (ss_one (ss_ret (sd_bin od_shl (sb (sd_call K_find_count ⟨rfl, rfl⟩ (hr.mono (by decide)) (takes_of rfl rfl rfl rfl) (sa_cons (sd_var 0) sa_nil))) (sb (sd_callB (cd_sum rfl) T.b_sum (by decide +kernel) (sa_cons (sb (sd_lc rfl sc_find_both.nd (si_tup (sd_ix od_ix (sb_var 0) (sb sd_int))) (blkOk_by (own := [("lane", 1)]) (by kernel_rfl)) rfl (fun _ _ _ _ _ => (sg_name 1 sc_find_both.nd)) (fun _ _ _ _ _ => (st_one (st_cmp (od_ne hr.units) (sb_var 1) (sb (sd_str []))))) (fun _ _ _ _ _ => (sd_bin od_sub (sb (sd_callB cd_len T.b_len (by decide +kernel) (sa_cons (sb_var 1) sa_nil))) (sb sd_int))))) sa_nil)))))))
theorem sc_count_both : FnScope ["yard"] ["yard"] (defScope (top 23)) := ⟨rfl, rfl, rfl, by decide +kernel, rfl, by decide +kernel, by decide +kernel⟩
theorem ok_count_both (T : Tx M) {fa : Addr} {fd : FuncData} (hmg : M.mg "count_both" = some (.ref fa)) (F : Fun M.K "count_both" "count_both" (top 23) fa fd) (hb : Binds M.K fd ["yard"] []) (K_check_yard : FnD P w M base 3 "check_yard" F_check_yard) (K_find_both : FnD P w M base 2 "find_both" F_find_both) : FnD P w M base 4 "count_both" F_count_both := by
  exact fn_mk (O' := []) hmg F sc_count_both hb (fun cdv A outer s H E hr F0 => (ss_cons (ss_expr (sd_call K_check_yard ⟨rfl, rfl⟩ (hr.mono (by decide)) (takes_of rfl rfl rfl rfl) (sa_cons (sd_var 0) sa_nil))) (ss_one (ss_ret (sd_call K_find_both ⟨rfl, rfl⟩ (hr.mono (by decide)) (takes_of rfl rfl rfl rfl) (sa_cons (sd_var 0) sa_nil))))))
theorem sc_first_both : FnScope ["yard", "lanes", "found", "car"] ["yard"] (defScope (top 24)) := ⟨rfl, rfl, rfl, by decide +kernel, rfl, by decide +kernel, by decide +kernel⟩
theorem ok_first_both (T : Tx M) {fa : Addr} {fd : FuncData} (hmg : M.mg "first_both" = some (.ref fa)) (F : Fun M.K "first_both" "first_both" (top 24) fa fd) (hb : Binds M.K fd ["yard"] []) (K_check_yard : FnD P w M base 3 "check_yard" F_check_yard) (K_ends : FnD P w M base 1 "ends" F_ends) (K_drop : FnDT P w M base 1 "drop" F_drop 1) (R_ends : FnR P w M base 1 "ends") : FnD P w M base 4 "first_both" F_first_both := by
  exact fn_mk (O' := []) hmg F sc_first_both hb (fun cdv A outer s H E hr F0 => (ss_cons (ss_expr (sd_call K_check_yard ⟨rfl, rfl⟩ (hr.mono (by decide)) (takes_of rfl rfl rfl rfl) (sa_cons (sd_var 0) sa_nil))) (ss_cons (ss_par2 1 2 rfl sc_first_both.nd (sf_sh (sd_ix od_ix (sb_var 0) (sb sd_int)) (sf_sh (sd_str []) sf_nil))) (ss_cons (ss_while 20 (passes_of rfl) (st_cmp (od_ne hr.units) (sb (sd_call K_ends ⟨rfl, rfl⟩ (hr.mono (by decide)) (takes_of rfl rfl rfl rfl) (sa_cons (sd_var 1) sa_nil))) (sb (sd_lst sa_nil))) (qs_head 1 3 sc_first_both.nd K_ends R_ends ⟨rfl, rfl⟩ (hr.mono (by decide)) (takes_of rfl rfl rfl rfl) (qs_par2 1 2 rfl sc_first_both.nd (qf_last (q_call2 1 3 K_drop ⟨rfl, rfl⟩ (hr.mono (by decide)) (takes_of rfl rfl rfl rfl)) (sf_sh (sd_bin od_add (sb_var 2) (sb_var 3)) sf_nil))))) (ss_one (ss_ret (sd_var 2)))))))
theorem sc_gained : FnScope ["yard"] ["yard"] (defScope (top 25)) := ⟨rfl, rfl, rfl, by decide +kernel, rfl, by decide +kernel, by decide +kernel⟩
theorem ok_gained (T : Tx M) {fa : Addr} {fd : FuncData} (hmg : M.mg "gained" = some (.ref fa)) (F : Fun M.K "gained" "gained" (top 25) fa fd) (hb : Binds M.K fd ["yard"] []) (K_check_yard : FnD P w M base 3 "check_yard" F_check_yard) (K_find_count : FnD P w M base 1 "find_count" F_find_count) (K_find_both : FnD P w M base 2 "find_both" F_find_both) : FnD P w M base 4 "gained" F_gained := by
  exact fn_mk (O' := []) hmg F sc_gained hb (fun cdv A outer s H E hr F0 => (ss_cons (ss_expr (sd_call K_check_yard ⟨rfl, rfl⟩ (hr.mono (by decide)) (takes_of rfl rfl rfl rfl) (sa_cons (sd_var 0) sa_nil))) (ss_one (ss_ret (sd_bin od_sub (sb (sd_call K_find_both ⟨rfl, rfl⟩ (hr.mono (by decide)) (takes_of rfl rfl rfl rfl) (sa_cons (sd_var 0) sa_nil))) (sb (sd_call K_find_count ⟨rfl, rfl⟩ (hr.mono (by decide)) (takes_of rfl rfl rfl rfl) (sa_cons (sd_var 0) sa_nil))))))))
theorem sc__law_pick : FnScope ["script", "k", "many", "cell", "rest", "again", "drawn"] ["script", "k", "many"] (defScope (top 27)) := ⟨rfl, rfl, rfl, by decide +kernel, rfl, by decide +kernel, by decide +kernel⟩
theorem ok__law_pick (T : Tx M) {fa : Addr} {fd : FuncData} (hmg : M.mg "_law_pick" = some (.ref fa)) (F : Fun M.K "_law_pick" "_law_pick" (top 27) fa fd) (hb : Binds M.K fd ["script", "k", "many"] [])  : FnD P w M base 1 "_law_pick" (F__law_pick M.ns) := by
  exact fn_mk (O' := []) hmg F sc__law_pick hb (fun cdv A outer s H E hr F0 => (ss_cons (ss_set 3 sc__law_pick.nd (sd_if (st_cmp (od_neS rfl hr.units) (sb_var 0) (sb (sd_lst sa_nil))) (sd_ix (od_ixS rfl) (sb_var 0) (sb (sd_bin od_mod (sb_var 1) (sb (sd_callB (cd_lenS rfl) T.b_len PySem.boot_len (sa_cons (sb_var 0) sa_nil)))))) sd_int)) (ss_cons (ss_par2 4 5 rfl sc__law_pick.nd (sf_sh (sd_bin od_fdivW (sb_var 3) (sb (sd_bin od_pow (sb sd_int) (sb sd_int)))) (sf_sh (sd_bin od_fdivW (sb_var 1) (sb (sd_callB (cd_max2 rfl) T.b_max (by decide +kernel) (sa_cons (sb (sd_callB (cd_lenS rfl) T.b_len PySem.boot_len (sa_cons (sb_var 0) sa_nil))) (sa_cons (sb sd_int) sa_nil))))) sf_nil))) (ss_cons (ss_while 256 (passes_of rfl) (PW.pt (st_and (st_cmp od_gt (sb_var 4) (sb sd_int)) (st_and1 (st_cmp od_gt (sb_var 5) (sb sd_int))))) (ss_one (ss_par2 4 5 rfl sc__law_pick.nd (sf_sh (sd_bin od_fdivW (sb_var 4) (sb sd_int)) (sf_sh (sd_bin od_sub (sb_var 5) (sb sd_int)) sf_nil))))) (ss_cons (ss_if (st_cmp od_gt (sb_var 4) (sb sd_int)) (ss_one (ss_ret (sd_bin od_mod (sb (sd_bin od_mod (sb_var 4) (sb sd_int))) (sb_var 2)))) ss_nil) (ss_cons (ss_set 6 sc__law_pick.nd (sd_bin od_mod (sb (sd_bin od_mul (sb (sd_bin od_add (sb (sd_bin od_mul (sb_var 3) (sb sd_int))) (sb (sd_bin od_mul (sb sd_int) (sb (sd_bin od_add (sb_var 1) (sb sd_int))))))) (sb sd_int))) (sb sd_int))) (ss_one (ss_ret (sd_bin od_mod (sb (sd_bin od_mod (sb (sd_bin od_add (sb (sd_bin od_mul (sb_var 6) (sb_var 6))) (sb (sd_bin od_fdivW (sb_var 6) (sb sd_int))))) (sb sd_int))) (sb_var 2))))))))))
theorem sc__law_park : FnScope ["script", "at", "most", "room", "lanes", "rest", "lane", "car", "k"] ["script", "at", "most"] (defScope (top 28)) := ⟨rfl, rfl, rfl, by decide +kernel, rfl, by decide +kernel, by decide +kernel⟩
theorem ok__law_park (T : Tx M) {fa : Addr} {fd : FuncData} (hmg : M.mg "_law_park" = some (.ref fa)) (F : Fun M.K "_law_park" "_law_park" (top 28) fa fd) (hb : Binds M.K fd ["script", "at", "most"] []) (K__law_pick : FnD P w M base 1 "_law_pick" (F__law_pick M.ns)) : FnD P w M base 2 "_law_park" (F__law_park M.ns) := by
  exact fn_mk (O' := []) hmg F sc__law_park hb (fun cdv A outer s H E hr F0 => (ss_cons (ss_par2 3 4 rfl sc__law_park.nd (sf_sh (sd_bin od_add (sb sd_int) (sb (sd_call K__law_pick ⟨rfl, rfl⟩ (hr.mono (by decide)) (takes_of rfl rfl rfl rfl) (sa_cons (sd_var 0) (sa_cons (sd_var 1) (sa_cons sd_int sa_nil)))))) (sf_new (sn_rep (sb (sd_lst (sa_cons (sd_str []) sa_nil))) (sb (sd_bin od_add (sb sd_int) (sb (sd_call K__law_pick ⟨rfl, rfl⟩ (hr.mono (by decide)) (takes_of rfl rfl rfl rfl) (sa_cons (sd_var 0) (sa_cons (sd_bin od_add (sb_var 1) (sb sd_int)) (sa_cons sd_int sa_nil)))))))) sf_nil))) (ss_cons (ss_own 5 sc__law_park.nd (sn_cut (sb (sd_callTy (cd_listS rfl) T.b_list (by decide +kernel) (sa_cons (sb (sd_str [97, 98, 99, 100, 101, 102, 103, 104])) sa_nil))) sp_none (sp_some (sd_var 2)))) (ss_cons (ss_for (passes_of rfl) rfl (si_rng1 T.b_range (sa_cons (sb (sd_call K__law_pick ⟨rfl, rfl⟩ (hr.mono (by decide)) (takes_of rfl rfl rfl rfl) (sa_cons (sd_var 0) (sa_cons (sd_bin od_add (sb_var 1) (sb sd_int)) (sa_cons (sd_bin od_add (sb_var 2) (sb sd_int)) sa_nil))))) sa_nil)) (sg_name 8 sc__law_park.nd) (fun _ _ => (ss_cons (ss_set 6 sc__law_park.nd (sd_call K__law_pick ⟨rfl, rfl⟩ (hr.mono (by decide)) (takes_of rfl rfl rfl rfl) (sa_cons (sd_var 0) (sa_cons (sd_bin od_add (sb (sd_bin od_add (sb_var 1) (sb sd_int))) (sb (sd_bin od_mul (sb sd_int) (sb_var 8)))) (sa_cons (sd_callB cd_len T.b_len (by decide +kernel) (sa_cons (sb_var 4) sa_nil)) sa_nil))))) (ss_cons (ss_pop 5 7 sc__law_park.nd (sd_call K__law_pick ⟨rfl, rfl⟩ (hr.mono (by decide)) (takes_of rfl rfl rfl rfl) (sa_cons (sd_var 0) (sa_cons (sd_bin od_add (sb (sd_bin od_add (sb_var 1) (sb sd_int))) (sb (sd_bin od_mul (sb sd_int) (sb_var 8)))) (sa_cons (sd_callB cd_len T.b_len (by decide +kernel) (sa_cons (sb_var 5) sa_nil)) sa_nil))))) (ss_one (ss_if (st_cmp od_lt (sb (sd_callB cd_len T.b_len (by decide +kernel) (sa_cons (sb (sd_ix od_ix (sb_var 4) (sb_var 6))) sa_nil))) (sb_var 3)) (ss_one (ss_item 4 (sd_bin od_add (sb (sd_ix od_ix (sb_var 4) (sb_var 6))) (sb_var 7)) (sb_var 6))) ss_nil)))))) (ss_one (ss_ret (sd_tup (sa_cons (sd_var 3) (sa_cons (sd_tupleOf T.b_tuple (sb_var 4)) sa_nil)))))))))
theorem sc__law_orders : FnScope ["signs", "found", "longer", "k", "begun", "car"] ["signs"] (defScope (top 29)) := ⟨rfl, rfl, rfl, by decide +kernel, rfl, by decide +kernel, by decide +kernel⟩
theorem ok__law_orders (T : Tx M) {fa : Addr} {fd : FuncData} (hmg : M.mg "_law_orders" = some (.ref fa)) (F : Fun M.K "_law_orders" "_law_orders" (top 29) fa fd) (hb : Binds M.K fd ["signs"] [])  : FnD P w M base 1 "_law_orders" F__law_orders := by
  exact fn_mk (O' := []) hmg F sc__law_orders hb (fun cdv A outer s H E hr F0 => (ss_cons (ss_set 1 sc__law_orders.nd (sd_lst (sa_cons (sd_str []) sa_nil))) (ss_cons (ss_for (passes_of rfl) rfl (si_rng1 T.b_range (sa_cons (sb (sd_callB cd_len T.b_len (by decide +kernel) (sa_cons (sb_var 0) sa_nil))) sa_nil)) (sg_name 3 sc__law_orders.nd) (fun _ _ => (ss_cons (ss_own 2 sc__law_orders.nd (sn_lst sa_nil)) (ss_cons (ss_for (passes_of rfl) rfl (si_list (sd_var 1)) (sg_name 4 sc__law_orders.nd) (fun _ _ => (ss_one (ss_extend 2 (sd_lc rfl sc__law_orders.nd (si_list (sd_callB (cd_sorted rfl) T.b_sorted (by decide +kernel) (sa_cons (sb_var 0) sa_nil))) (blkOk_by (own := [("car", 5)]) (by kernel_rfl)) rfl (fun _ _ _ _ _ => (sg_name 5 sc__law_orders.nd)) (fun _ _ _ _ _ => (st_one (st_cmp (od_notin hr.units) (sb_var 5) (sb_var 4)))) (fun _ _ _ _ _ => (sd_bin od_add (sb_var 4) (sb_var 5)))))))) (ss_let (O := [2]) 2 (ss_one (ss_set 1 sc__law_orders.nd (sd_var 2)))))))) (ss_one (ss_ret (sd_var 1))))))
theorem sc__law_goes : FnScope ["lanes", "order", "is_double", "sides", "car", "lane"] ["lanes", "order", "is_double"] (defScope (top 30)) := ⟨rfl, rfl, rfl, by decide +kernel, rfl, by decide +kernel, by decide +kernel⟩
theorem ok__law_goes (T : Tx M) {fa : Addr} {fd : FuncData} (hmg : M.mg "_law_goes" = some (.ref fa)) (F : Fun M.K "_law_goes" "_law_goes" (top 30) fa fd) (hb : Binds M.K fd ["lanes", "order", "is_double"] [])  : FnD P w M base 1 "_law_goes" F__law_goes := by
  exact fn_mkTC (O' := []) hmg F sc__law_goes hb rfl rfl (fun cdv A outer s H E hr F0 => (qs_cons1 (qs_forSC 4 (passes_of rfl) rfl sc__law_goes.nd (sd_var 1) (fun _ _ => (qk_cons (sk_setLc 3 rfl sc__law_goes.nd (ki_tup (k_var 0)) (blkOk_by (own := [("lane", 5)]) (by kernel_rfl)) rfl (fun _ _ _ _ _ => (sg_name 5 sc__law_goes.nd)) (fun _ _ _ _ _ => (st_one (st_cmp (od_ne hr.units) (sb_var 5) (sb (sd_str []))))) (fun _ _ _ _ _ => (sd_ix od_ix (sb_var 5) (sb (sd_neg sd_int))))) (qk_cons (sk_if (kt_val (k_var 2)) (sk_one (sk_set 3 sc__law_goes.nd (k_bin ok_addLL (kb (k_var 3)) (kb (k_lc rfl sc__law_goes.nd (ki_tup (k_var 0)) (blkOk_by (own := [("lane", 5)]) (by kernel_rfl)) rfl (fun _ _ _ _ _ => (sg_name 5 sc__law_goes.nd)) (fun _ _ _ _ _ => (st_one (st_cmp (od_ne hr.units) (sb_var 5) (sb (sd_str []))))) (fun _ _ _ _ _ => (sd_ix od_ix (sb_var 5) (sb sd_int)))))))) sk_nil) (qk_cons (sk_if (kt_cmp (ok_notinL hr.units) (kb (k_var 4)) (kb (k_var 3))) (sk_one (sk_ret sd_bl)) sk_nil) (qk_last 0 sc__law_goes.nd (q_tupleOf T.b_tuple (q_strikes 5 4 rfl sc__law_goes.nd (fun _ => rfl) (u_var 0) (blkOk_by (own := [("lane", 5)]) (by kernel_rfl)) rfl rfl (fun _ _ _ _ _ => sg_name 5 sc__law_goes.nd) rfl rfl (fun _ _ => Or.inl rfl) (fun _ _ => rfl) (fun _ _ => by first | exact Or.inl rfl | exact Or.inr rfl) rfl rfl (by decide) (by decide) (by decide) (by decide) (fun _ => rfl) (fun _ => rfl) rfl (fun _ => rfl))))))))) (PSq.of (ss_one (ss_ret sd_bl)))))
theorem sc_law : FnScope ["script", "yard", "lanes", "known", "sides", "good", "simple", "fits", "some", "order", "i", "many", "k", "lane"] ["script"] (defScope (top 31)) := ⟨rfl, rfl, rfl, by decide +kernel, rfl, by decide +kernel, by decide +kernel⟩
theorem ok_law (T : Tx M) {fa : Addr} {fd : FuncData} (F : Fun M.K "law" "law" (top 31) fa fd) (K_count_free : FnD P w M base 4 "count_free" F_count_free) (K_free_both : FnD P w M base 4 "free_both" F_free_both) (K_is_both : FnD P w M base 4 "is_both" F_is_both) (K_count_both : FnD P w M base 4 "count_both" F_count_both) (K_first_both : FnD P w M base 4 "first_both" F_first_both) (K_gained : FnD P w M base 4 "gained" F_gained) (K__law_pick : FnD P w M base 1 "_law_pick" (F__law_pick M.ns)) (K__law_park : FnD P w M base 2 "_law_park" (F__law_park M.ns)) (K__law_orders : FnD P w M base 1 "_law_orders" F__law_orders) (K__law_goes : FnD P w M base 1 "_law_goes" F__law_goes) : FnOk P w M.K M.mg base (L2.CX P w) 5 fa fd ["script"] (spD M (F_law M.ns)) := by
  exact fn_okN (np := 1) (nn := 14) (O' := []) (by decide) (by decide) F sc_law (fun cdv A outer s H E hr F0 => (ss_cons (ss_for (passes_of rfl) rfl (si_rng1 T.b_range (sa_cons (sb sd_int) sa_nil)) (sg_name 10 sc_law.nd) (fun _ _ => (ss_cons (ss_set 1 sc_law.nd (sd_call K__law_park ⟨rfl, rfl⟩ (hr.mono (by decide)) (takes_of rfl rfl rfl rfl) (sa_cons (sd_var 0) (sa_cons (sd_bin od_mul (sb sd_int) (sb_var 10)) (sa_cons sd_int sa_nil))))) (ss_cons (ss_set 2 sc_law.nd (sd_ix od_ix (sb_var 1) (sb sd_int))) (ss_cons (ss_set 3 sc_law.nd (sd_callB (cd_sorted rfl) T.b_sorted (by decide +kernel) (sa_cons (sb (sd_meth PySem.F.plainAttrs_str PySem.F.slot_str_join PySem.F.type_str_join md_join (sb (sd_str [])) (sa_cons (sb_var 2) sa_nil))) sa_nil))) (ss_cons (ss_set 4 sc_law.nd (sd_bin od_add (sb (sd_lc rfl sc_law.nd (si_tup (sd_var 2)) (blkOk_by (own := [("lane", 13)]) (by kernel_rfl)) rfl (fun _ _ _ _ _ => (sg_name 13 sc_law.nd)) (fun _ _ _ _ _ => (st_one (st_cmp (od_ne hr.units) (sb_var 13) (sb (sd_str []))))) (fun _ _ _ _ _ => (sd_ix od_ix (sb_var 13) (sb sd_int))))) (sb (sd_lc rfl sc_law.nd (si_tup (sd_var 2)) (blkOk_by (own := [("lane", 13)]) (by kernel_rfl)) rfl (fun _ _ _ _ _ => (sg_name 13 sc_law.nd)) (fun _ _ _ _ _ => (st_one (st_cmp (od_ne hr.units) (sb_var 13) (sb (sd_str []))))) (fun _ _ _ _ _ => (sd_ix od_ix (sb_var 13) (sb (sd_neg sd_int)))))))) (ss_cons (ss_if (st_cmp (od_ne hr.units) (sb (sd_call K_free_both ⟨rfl, rfl⟩ (hr.mono (by decide)) (takes_of rfl rfl rfl rfl) (sa_cons (sd_var 1) sa_nil))) (sb (sd_meth PySem.F.plainAttrs_str PySem.F.slot_str_join PySem.F.type_str_join md_join (sb (sd_str [])) (sa_cons (sb (sd_sortSetS rfl T.b_sorted T.b_set (sd_var 4))) sa_nil)))) (ss_one (ss_ret sd_bl)) ss_nil) (ss_cons (ss_par2 5 6 rfl sc_law.nd (sf_new (sn_lst sa_nil) (sf_sh sd_int sf_nil))) (ss_cons (ss_for (passes_of rfl) rfl (si_list (sd_call K__law_orders ⟨rfl, rfl⟩ (hr.mono (by decide)) (takes_of rfl rfl rfl rfl) (sa_cons (sd_var 3) sa_nil))) (sg_name 9 sc_law.nd) (fun _ _ => (ss_cons (ss_set 7 sc_law.nd (sd_call K__law_goes ⟨rfl, rfl⟩ (hr.mono (by decide)) (takes_of rfl rfl rfl rfl) (sa_cons (sd_var 2) (sa_cons (sd_var 9) (sa_cons sd_bl sa_nil))))) (ss_cons (ss_set 6 sc_law.nd (sd_bin od_add (sb_var 6) (sb (sd_if (st_val (sd_call K__law_goes ⟨rfl, rfl⟩ (hr.mono (by decide)) (takes_of rfl rfl rfl rfl) (sa_cons (sd_var 2) (sa_cons (sd_var 9) (sa_cons sd_bl sa_nil))))) sd_int sd_int)))) (ss_one (ss_if (st_val (sd_var 7)) (ss_one (ss_append 5 (sd_var 9))) ss_nil)))))) (ss_cons (ss_if (PW.pt (st_or (st_cmp (od_ne hr.units) (sb (sd_call K_count_both ⟨rfl, rfl⟩ (hr.mono (by decide)) (takes_of rfl rfl rfl rfl) (sa_cons (sd_var 1) sa_nil))) (sb (sd_callB cd_len T.b_len (by decide +kernel) (sa_cons (sb_var 5) sa_nil)))) (st_or (st_cmp (od_ne hr.units) (sb (sd_call K_gained ⟨rfl, rfl⟩ (hr.mono (by decide)) (takes_of rfl rfl rfl rfl) (sa_cons (sd_var 1) sa_nil))) (sb (sd_bin od_sub (sb (sd_callB cd_len T.b_len (by decide +kernel) (sa_cons (sb_var 5) sa_nil))) (sb_var 6)))) (st_or1 (st_cmp (od_ne hr.units) (sb (sd_call K_count_free ⟨rfl, rfl⟩ (hr.mono (by decide)) (takes_of rfl rfl rfl rfl) (sa_cons (sd_var 1) sa_nil))) (sb_var 6)))))) (ss_one (ss_ret sd_bl)) ss_nil) (ss_cons (ss_if (st_cmp (od_ne hr.units) (sb (sd_call K_first_both ⟨rfl, rfl⟩ (hr.mono (by decide)) (takes_of rfl rfl rfl rfl) (sa_cons (sd_var 1) sa_nil))) (sb (sd_ix od_ix (sb_var 5) (sb sd_int)))) (ss_one (ss_ret sd_bl)) ss_nil) (ss_cons (ss_for (passes_of rfl) rfl (si_rng1 T.b_range (sa_cons (sb sd_int) sa_nil)) (sg_name 12 sc_law.nd) (fun _ _ => (ss_cons (ss_set 8 sc_law.nd (sd_call K__law_orders ⟨rfl, rfl⟩ (hr.mono (by decide)) (takes_of rfl rfl rfl rfl) (sa_cons (sd_cut (sb_var 3) sp_none (sp_some sd_int)) sa_nil))) (ss_cons (ss_set 9 sc_law.nd (sd_bin od_add (sb (sd_ix od_ix (sb_var 8) (sb (sd_call K__law_pick ⟨rfl, rfl⟩ (hr.mono (by decide)) (takes_of rfl rfl rfl rfl) (sa_cons (sd_var 0) (sa_cons (sd_bin od_add (sb (sd_bin od_add (sb (sd_bin od_mul (sb sd_int) (sb_var 10))) (sb sd_int))) (sb_var 12)) (sa_cons (sd_callB cd_len T.b_len (by decide +kernel) (sa_cons (sb_var 8) sa_nil)) sa_nil))))))) (sb (sd_meth PySem.F.plainAttrs_str PySem.F.slot_str_join PySem.F.type_str_join md_join (sb (sd_str [])) (sa_cons (sb (sd_cut (sb_var 3) (sp_some sd_int) sp_none)) sa_nil))))) (ss_cons (ss_if (st_cmp (od_eq hr.units) (sb_var 12) (sb sd_int)) (ss_one (ss_set 9 sc_law.nd (sd_ix od_ix (sb_var 5) (sb (sd_call K__law_pick ⟨rfl, rfl⟩ (hr.mono (by decide)) (takes_of rfl rfl rfl rfl) (sa_cons (sd_var 0) (sa_cons (sd_bin od_add (sb (sd_bin od_mul (sb sd_int) (sb_var 10))) (sb sd_int)) (sa_cons (sd_callB cd_len T.b_len (by decide +kernel) (sa_cons (sb_var 5) sa_nil)) sa_nil)))))))) ss_nil) (ss_one (ss_if (st_cmp (od_ne hr.units) (sb (sd_call K_is_both ⟨rfl, rfl⟩ (hr.mono (by decide)) (takes_of rfl rfl rfl rfl) (sa_cons (sd_var 1) (sa_cons (sd_var 9) sa_nil)))) (sb (sd_cmp (od_in hr.units) (sb_var 9) (sb_var 5)))) (ss_one (ss_ret sd_bl)) ss_nil))))))) (ss_let (O := [5]) 5 ss_nil))))))))))))) (ss_cons (ss_for (passes_of rfl) rfl (si_tup (sd_tup (sa_cons sd_int (sa_cons sd_int (sa_cons sd_int (sa_cons sd_int sa_nil)))))) (sg_name 11 sc_law.nd) (fun _ _ => (ss_one (ss_if (st_cmp (od_ne hr.units) (sb (sd_call K_count_both ⟨rfl, rfl⟩ (hr.mono (by decide)) (takes_of rfl rfl rfl rfl) (sa_cons (sd_tup (sa_cons sd_int (sa_cons (sd_tup (sa_cons (sd_cut (sb (sd_str [97, 98, 99, 100])) sp_none (sp_some (sd_var 11))) sa_nil)) sa_nil))) sa_nil))) (sb (sd_ix od_ix (sb (sd_lst (sa_cons sd_int (sa_cons sd_int (sa_cons sd_int (sa_cons sd_int sa_nil)))))) (sb (sd_bin od_sub (sb_var 11) (sb sd_int)))))) (ss_one (ss_ret sd_bl)) ss_nil)))) (ss_one (ss_ret (sd_and (sd_cmp (od_eq hr.units) (sb (sd_call K_count_both ⟨rfl, rfl⟩ (hr.mono (by decide)) (takes_of rfl rfl rfl rfl) (sa_cons (sd_tup (sa_cons sd_int (sa_cons (sd_tup (sa_cons (sd_str [97, 98, 99]) (sa_cons (sd_str [100]) (sa_cons (sd_str []) sa_nil)))) sa_nil))) sa_nil))) (sb sd_int)) (sd_one (sd_cmp (od_eq hr.units) (sb (sd_call K_first_both ⟨rfl, rfl⟩ (hr.mono (by decide)) (takes_of rfl rfl rfl rfl) (sa_cons (sd_tup (sa_cons sd_int (sa_cons (sd_tup (sa_cons (sd_str [97, 98, 99]) (sa_cons (sd_str [100]) (sa_cons (sd_str []) sa_nil)))) sa_nil))) sa_nil))) (sb (sd_str [97, 98, 99, 100]))))))))))
end
end K53

namespace K53
open CL CY
theorem s_is_int (v a b : Int) : F_is_int [.int v, .int a, .int b] = .ok (.bl (decide (a ≤ v) && decide (v ≤ b))) := by
  by_cases h : a ≤ v <;> simp [F_is_int, m_is_int, h]
theorem s_is_lane {l : List Nat} {r : Nat} (h1 : l.length ≤ r) (h4 : r ≤ 4) (h2 : ∀ c ∈ l, isL c = true) : F_is_lane [.str l, .int r] = .ok (.bl true) := by
  have hc : q_is_lane_1 [some (.str l), some (.int r), none] = .ok (.lst ((l.map isL).map D.bl)) :=
    lcV_all (f := fun c => D.str [c]) D.bl isL (by simp [strOf]) (by omega) fun c _ => by
      simp [isL]
  have hall : (l.map isL).all id = true := by simpa using h2
  simp only [F_is_lane, m_is_lane, hc, hall, h1, ev_all, ev_run, ev_start, ev_ret, ev_andV, List.length_cons, List.length_nil]
  simp [-List.map_map, hc, hall, h1]
theorem s_is_yard {r : Nat} {L : Lanes} (h : Ok r L) : F_is_yard [yd r L] = .ok (.bl true) := by
  have hi : F_is_int [.int r, .int 1, .int 4] = .ok (.bl true) := by
    rw [s_is_int]; have := h.r1; have := h.r4; simp; omega
  have hc : q_is_yard_1 [some (.tup [.int r, .tup (L.map .str)]), some (.int r), some (.tup (L.map .str)), none, none] = .ok (.lst ((L.map fun _ => true).map D.bl)) :=
    lcV_all (f := D.str) D.bl (fun _ => true) (by simp [tupOf]) (by have := h.n4; omega) fun l hl => by
      simp [s_is_lane (h.len l hl) h.r4 (h.let_ l hl)]
  have hall : (L.map fun _ => true).all id = true := by simp
  have hn1 : (1 : Int) ≤ (L.length : Int) := by have := h.n1; omega
  have hn4 : (L.length : Int) ≤ 4 := by have := h.n4; omega
  have ht := h.tot
  have hj := ev_joinT L (by omega)
  have hL : L.flatten.length ≤ 4000 := by omega
  have hd := ddup_nodup h.nd
  simp [-List.map_map, -List.length_flatten, F_is_yard, m_is_yard, yd, t_is_yard_1, t_is_yard_2, t_is_yard_3, hi, hc, hall, hn1, hn4, hj, hL, hd]
theorem s_check_yard {r : Nat} {L : Lanes} (h : Ok r L) : F_check_yard [yd r L] = .ok .non := by
  simp [F_check_yard, m_check_yard, t_check_yard_1, s_is_yard h]
theorem s_find_cars {r : Nat} {L : Lanes} (h : Ok r L) : F_find_cars [yd r L] = .ok (.str (srt L.flatten)) := by
  have ht := h.tot
  have hj := ev_joinT L (by omega)
  have hs := ev_sortS L.flatten (by omega)
  have hp := (srt_perm L.flatten).length_eq
  have hj2 := ev_joinL ((srt L.flatten).map fun c => [c]) (by rw [flat_sign]; omega)
  rw [flat_sign] at hj2
  simp [-List.map_map, -List.length_flatten, F_find_cars, m_find_cars, ydix1, hj, hs, hj2]
end K53

namespace K53
open CL CY
theorem s_has_order {k s : List Nat} (h : s.length < 64) : F_has_order [.str k, .str s] = .ok (.bl (srt s == k)) := by
  have hs := ev_sortS s h
  have hp := (srt_perm s).length_eq
  have hj2 := ev_joinL ((srt s).map fun c => [c]) (by rw [flat_sign]; omega)
  rw [flat_sign] at hj2
  simp [-List.map_map, F_has_order, m_has_order, hs, hj2]
theorem count_in {Y Ln : Option D} {M m : Nat} : ∀ (k p : Nat) {x : Option D}, M * chs (m + (p + k)) (p + k) ≤ 1000000000 → p + k ≤ 1000 → ∃ x', forL (put 4) b_find_count_1 ((List.range' p k).map fun i : Nat => D.int i) [Y, some (.int ((M * chs (m + p) p : Nat) : Int)), some (.int ((m + p : Nat) : Int)), Ln, x] =
      .nxt [Y, some (.int ((M * chs (m + (p + k)) (p + k) : Nat) : Int)), some (.int ((m + (p + k) : Nat) : Int)), Ln, x']
  | 0, p, x, _, _ => ⟨x, rfl⟩
  | k + 1, p, x, hb, hk => by
    obtain ⟨x', e⟩ := count_in (Y := Y) (Ln := Ln) (M := M) (m := m) k (p + 1) (x := some (.int p)) (by rw [show p + 1 + k = p + (k + 1) from by omega]; exact hb) (by omega)
    refine ⟨x', ?_⟩
    have hle : M * chs (m + p) p ≤ 1000000000 := Nat.le_trans (Nat.mul_le_mul_left M (chs_up m p (k + 1))) hb
    have e1 : D.mul (.int ((M * chs (m + p) p : Nat) : Int)) (.int (((m + p : Nat) : Int) + 1)) = .ok (.int (((M * chs (m + p) p : Nat) : Int) * (((m + p : Nat) : Int) + 1))) := ev_mulI (by omega) (by omega)
    have e2 : D.fdivW (.int (((M * chs (m + p) p : Nat) : Int) * (((m + p : Nat) : Int) + 1))) (.int ((p : Int) + 1)) = .ok (.int ((M * chs (m + (p + 1)) (p + 1) : Nat) : Int)) := by
      rw [ev_fdiv (by omega) (by omega)]
      congr 2
      have h := chs_mul (m + p) p
      have h' : M * chs (m + p) p * (m + p + 1) = M * chs (m + (p + 1)) (p + 1) * (p + 1) := by
        rw [Nat.mul_assoc, Nat.mul_comm (chs (m + p) p), h, ← Nat.mul_assoc]; rfl
      have a : ((M * chs (m + p) p : Nat) : Int) * (((m + p : Nat) : Int) + 1) = ((M * chs (m + p) p * (m + p + 1) : Nat) : Int) := by rw [Int.natCast_mul (M * chs (m + p) p)]; rfl
      rw [a, h', Int.natCast_mul]
      exact Int.mul_ediv_cancel _ (by omega)
    have hbody : b_find_count_1 [Y, some (.int ((M * chs (m + p) p : Nat) : Int)), some (.int ((m + p : Nat) : Int)), Ln, some (.int p)] = .nxt [Y, some (.int ((M * chs (m + (p + 1)) (p + 1) : Nat) : Int)), some (.int ((m + (p + 1) : Nat) : Int)), Ln, some (.int p)] := by
      unfold b_find_count_1
      simp only [ev_seq, ev_set, ev_bin, ev_get, ev_cst, List.getElem?_cons_succ, List.getElem?_cons_zero, R.ok_bind, ev_addI, ev_inS, List.set_cons_succ, List.set_cons_zero, e1, e2]
      rfl
    rw [List.range'_succ, List.map_cons]
    simp only [forL, put, List.set_cons_succ, List.set_cons_zero, hbody]
    rw [e, show p + 1 + k = p + (k + 1) from by omega]
theorem count_out {Y : Option D} : ∀ (L : Lanes) {M m : Nat} {x3 x4 : Option D}, M * mn m (lens L) ≤ 1000000000 → (∀ l ∈ L, l.length ≤ 4) → ∃ x3' x4', forL (put 3) b_find_count_2 (L.map D.str) [Y, some (.int (M : Nat)), some (.int (m : Nat)), x3, x4] =
      .nxt [Y, some (.int ((M * mn m (lens L) : Nat) : Int)), some (.int ((m + (lens L).sum : Nat) : Int)), x3', x4']
  | [], M, m, x3, x4, _, _ => ⟨x3, x4, by simp [forL, lens, mn]⟩
  | l :: L, M, m, x3, x4, hb, hl => by
    have h4 := hl l (by simp)
    have e0 : mn m (lens (l :: L)) = chs (m + l.length) l.length * mn (m + l.length) (lens L) := rfl
    rw [e0, ← Nat.mul_assoc] at hb
    have hp := mn_posG (lens L) (m + l.length)
    have hle : M * chs (m + l.length) l.length ≤ 1000000000 := Nat.le_trans (Nat.le_mul_of_pos_right _ hp) hb
    obtain ⟨x4', e⟩ := count_in (Y := Y) (Ln := some (.str l)) (M := M) (m := m) l.length 0 (x := x4) (by rw [Nat.zero_add]; exact hle) (by omega)
    simp only [Nat.zero_add, Nat.add_zero, chs_zero, Nat.mul_one] at e
    obtain ⟨y3, y4, e2⟩ := count_out (Y := Y) L (M := M * chs (m + l.length) l.length) (m := m + l.length) (x3 := some (.str l)) (x4 := x4') hb fun z hz => hl z (by simp [hz])
    refine ⟨y3, y4, ?_⟩
    have fw : wid 1000000 (l.length : Int) = true := wid_iff.2 ⟨by omega, by omega⟩
    have hbody : b_find_count_2 [Y, some (.int (M : Nat)), some (.int (m : Nat)), some (.str l), x4] = .nxt [Y, some (.int ((M * chs (m + l.length) l.length : Nat) : Int)), some (.int ((m + l.length : Nat) : Int)), some (.str l), x4'] := by
      unfold b_find_count_2 forS rng1
      simp only [ev_app, ev_consA, ev_get, ev_nilA, List.getElem?_cons_succ, List.getElem?_cons_zero, R.ok_bind, ev_lenS, fw, if_true, rngL, Int.toNat_natCast, Int.zero_add, List.range_eq_range', ev_inA]
      exact e
    rw [List.map_cons]
    simp only [forL, put, List.set_cons_succ, List.set_cons_zero, hbody]
    rw [e2, e0, ← Nat.mul_assoc]
    congr 5
    simp [lens]; omega
theorem s_find_count {r : Nat} {L : Lanes} (o : Ok r L) : F_find_count [yd r L] = .ok (.int (cnt L)) := by
  have hc := cnt_le8 o
  obtain ⟨x3, x4, e⟩ := count_out (Y := some (yd r L)) L (M := 1) (m := 0) (x3 := none) (x4 := none) (by rw [Nat.one_mul]; unfold cnt at hc; omega) (fun l hl => Nat.le_trans (o.len l hl) o.r4)
  have hf : forS (tupOf (bin D.ix (getV 0) (cst (.int 1)))) (put 3) b_find_count_2 [some (yd r L), some (.int 1), some (.int 0), none, none] = .nxt [some (yd r L), some (.int (cnt L)), some (.int ((0 + (lens L).sum : Nat) : Int)), x3, x4] := by
    unfold forS tupOf
    simp only [ev_bin, ev_get, ev_cst, List.getElem?_cons_zero, R.ok_bind, ydix1, ev_inA]
    rw [Nat.one_mul] at e
    exact e
  simp [F_find_count, m_find_count, hf]
theorem s_count_free {r : Nat} {L : Lanes} (o : Ok r L) : F_count_free [yd r L] = .ok (.int (cnt L)) := by
  simp [F_count_free, m_count_free, s_check_yard o, s_find_count o]
end K53

namespace K53
open CL CY
theorem pick_while (ns : List Int) {S K Mx C x6 : Option D} : ∀ (n : Nat) (rest turn : Int), turn < n → ∃ t' r', whileL (t__law_pick_1 ns) (b__law_pick_1 ns) (n + 1) [S, K, Mx, C, some (.int rest), some (.int turn), x6] = .nxt [S, K, Mx, C, some (.int r'), some (.int t'), x6]
  | n, rest, turn, h => by
    by_cases hr : 0 < rest
    · by_cases ht : 0 < turn
      · have e1 : t__law_pick_1 ns [S, K, Mx, C, some (.int rest), some (.int turn), x6] = .ok true := by
          simp [t__law_pick_1, hr, ht]
        have f : D.fdivW (.int rest) (.int 840) = .ok (.int (rest / 840)) := ev_fdiv (by decide) (by decide)
        have e2 : b__law_pick_1 ns [S, K, Mx, C, some (.int rest), some (.int turn), x6] = .nxt [S, K, Mx, C, some (.int (rest / 840)), some (.int (turn - 1)), x6] := by
          simp [b__law_pick_1, f, set2]
        obtain ⟨n, rfl⟩ : ∃ z, n = z + 1 := ⟨n - 1, by omega⟩
        obtain ⟨t', r', e⟩ := pick_while ns n (rest / 840) (turn - 1) (by omega)
        refine ⟨t', r', ?_⟩
        unfold whileL
        rw [e1]
        simp only [ev_inT, if_true, e2]
        exact e
      · refine ⟨turn, rest, ?_⟩
        have e1 : t__law_pick_1 ns [S, K, Mx, C, some (.int rest), some (.int turn), x6] = .ok false := by
          simp [t__law_pick_1, hr, ht]
        unfold whileL
        rw [e1]
        simp
    · refine ⟨turn, rest, ?_⟩
      have e1 : t__law_pick_1 ns [S, K, Mx, C, some (.int rest), some (.int turn), x6] = .ok false := by
        simp [t__law_pick_1, hr]
      unfold whileL
      rw [e1]
      simp
theorem s_pick (ns : List Int) (hns : ns.length ≤ 63) {k many : Nat} (hk : k < 250) (hm : 1 ≤ many) : ∃ d : Nat, d < many ∧ F__law_pick ns [.opq 0 [], .int k, .int many] = .ok (.int d) := by
  obtain ⟨cell, hcell⟩ : ∃ cell : Int, ifV (tst (bin (D.neS ns) (getV 0) (lstV nilA))) (bin (D.ixS ns) (getV 0) (bin D.mod (getV 1) (app (D.lenS ns) (consA (getV 0) nilA)))) (cst (.int 0)) [some (.opq 0 []), some (.int k), some (.int many), none, none, none, none] = .ok (.int cell) := by
    by_cases hn : ns = []
    · subst hn
      exact ⟨0, by simp [D.neS]⟩
    · have hp : 0 < ns.length := List.length_pos_iff.2 hn
      have g1 : D.mod (.int k) (.int ns.length) = .ok (.int ((k % ns.length : Nat) : Int)) := by
        rw [ev_mod (by omega)]; simp
      have hlt : k % ns.length < ns.length := Nat.mod_lt _ hp
      obtain ⟨cell, hcell⟩ : ∃ cell, ns[k % ns.length]? = some cell := ⟨_, List.getElem?_eq_getElem hlt⟩
      have g3 : D.ixS ns (.opq 0 []) (.int ((k % ns.length : Nat) : Int)) = .ok (.int cell) := by
        show (match L2.atI ns ((k % ns.length : Nat) : Int) with | some d => R.ok (D.int d) | none => .bad) = _
        rw [atI_nat, hcell]
      have g4 : D.lenS ns [.opq 0 []] = .ok (.int ns.length) := rfl
      have t1 : D.neS ns (.opq 0 []) (.lst []) = .ok (.bl true) := by
        cases ns with
        | nil => exact absurd rfl hn
        | cons a l => simp [D.neS]
      refine ⟨cell, ?_⟩
      rw [show ((k % ns.length : Nat) : Int) = (k : Int) % (ns.length : Int) from by simp] at g1 g3
      simp [t1, g4, g1, g3]
  have gp : D.pow (.int 10) (.int 18) = .ok (.int (10 ^ 18)) := rfl
  have gd : D.fdivW (.int cell) (.int (10 ^ 18)) = .ok (.int (cell / 10 ^ 18)) := ev_fdiv (by decide) (by decide)
  obtain ⟨turn, hturn, hlt⟩ : ∃ turn : Int, bin D.fdivW (getV 1) (app D.max2 (consA (app (D.lenS ns) (consA (getV 0) nilA)) (consA (cst (.int 1)) nilA))) [some (.opq 0 []), some (.int k), some (.int many), some (.int cell), none, none, none] = .ok (.int turn) ∧ turn < 255 := by
    have g4 : D.lenS ns [.opq 0 []] = .ok (.int ns.length) := rfl
    have g5 : D.max2 [.int ns.length, .int 1] = .ok (.int ((max ns.length 1 : Nat) : Int)) := by
      show R.ok (D.int (if (1 : Int) > (ns.length : Int) then 1 else (ns.length : Int))) = _
      congr 2
      split <;> omega
    by_cases hb : ((max ns.length 1 : Nat) : Int) ≤ 18446744073709551615
    · have g2 : D.fdivW (.int k) (.int ((max ns.length 1 : Nat) : Int)) = .ok (.int ((k / max ns.length 1 : Nat) : Int)) := by
        rw [ev_fdiv (by omega) hb]
        simp
      refine ⟨((k / max ns.length 1 : Nat) : Int), by simp only [ev_bin, ev_app, ev_consA, ev_nilA, ev_get, ev_cst, List.getElem?_cons_succ, List.getElem?_cons_zero, R.ok_bind, g4, g5, g2], ?_⟩
      have : k / max ns.length 1 ≤ k := Nat.div_le_self _ _
      omega
    · exact absurd hns (by omega)
  obtain ⟨t', r', hw⟩ := pick_while ns (S := some (.opq 0 [])) (K := some (.int k)) (Mx := some (.int many)) (C := some (.int cell)) (x6 := none) 255 (cell / 10 ^ 18) turn hlt
  have m2 : ∀ c : Int, D.mod (.int c) (.int many) = .ok (.int (c % many)) := fun c => ev_mod (by omega)
  have key : ∃ z : Int, m__law_pick ns [some (.opq 0 []), some (.int k), some (.int many), none, none, none, none] = .ret (.int (z % many)) := by
    have m1 : ∀ c : Int, D.mod (.int c) (.int 840) = .ok (.int (c % 840)) := fun c => ev_mod (by decide)
    have f1 : ∀ c : Int, D.mul (.int c) (.int 31) = .ok (.int (c * 31)) := fun c => ev_mulS (by decide) (by decide)
    have f2 : ∀ c : Int, D.mul (.int 6151) (.int c) = .ok (.int (6151 * c)) := fun c => ev_mulR (by decide) (by decide)
    have f3 : ∀ c : Int, D.mul (.int c) (.int 40692) = .ok (.int (c * 40692)) := fun c => ev_mulS (by decide) (by decide)
    have f4 : ∀ c : Int, D.mod (.int c) (.int 2147483399) = .ok (.int (c % 2147483399)) := fun c => ev_mod (by decide)
    have f5 : ∀ c : Int, D.mul (.int (c % 2147483399)) (.int (c % 2147483399)) = .ok (.int (c % 2147483399 * (c % 2147483399))) := fun c => ev_mulR (by omega) (by omega)
    have f6 : ∀ c : Int, D.fdivW (.int c) (.int 31) = .ok (.int (c / 31)) := fun c => ev_fdiv (by decide) (by decide)
    have f7 : ∀ c : Int, D.mod (.int c) (.int 2147483629) = .ok (.int (c % 2147483629)) := fun c => ev_mod (by decide)
    by_cases hr : 0 < r'
    · have t4 : t__law_pick_2 ns [some (.opq 0 []), some (.int k), some (.int many), some (.int cell), some (.int r'), some (.int t'), none] = .ok true := by
        simp [t__law_pick_2, hr]
      refine ⟨r' % 840, ?_⟩
      unfold m__law_pick
      simp only [ev_seq, ev_set, hcell, ev_inS, List.set_cons_succ, List.set_cons_zero, ev_par2, ev_consA, hturn, ev_bin, ev_get, ev_cst, List.getElem?_cons_succ, List.getElem?_cons_zero, R.ok_bind, gp, gd, ev_nilA, ev_inA, set2, hw, ev_ifS, t4, ev_inT, if_true, ev_ret, m1, m2]
    · have t4 : t__law_pick_2 ns [some (.opq 0 []), some (.int k), some (.int many), some (.int cell), some (.int r'), some (.int t'), none] = .ok false := by
        simp [t__law_pick_2, hr]
      unfold m__law_pick
      simp only [ev_seq, ev_set, hcell, ev_inS, List.set_cons_succ, List.set_cons_zero, ev_par2, ev_consA, hturn, ev_bin, ev_get, ev_cst, List.getElem?_cons_succ, List.getElem?_cons_zero, R.ok_bind, gp, gd, ev_nilA, ev_inA, set2, hw, ev_ifS, t4, ev_inT, if_true, Bool.false_eq_true, if_false, ev_ret, f1, f2, f3, f4, f5, f6, f7, ev_addI, m2]
      exact ⟨_, rfl⟩
  obtain ⟨z, hz⟩ := key
  have h0 : 0 ≤ z % many := Int.emod_nonneg z (by omega)
  have h1 : z % many < many := Int.emod_lt_of_pos z (by omega)
  refine ⟨(z % many).toNat, by omega, ?_⟩
  show outD (m__law_pick ns [some (.opq 0 []), some (.int k), some (.int many), none, none, none, none]) = _
  rw [hz, Int.toNat_of_nonneg h0]; rfl
theorem park_loop (ns : List Int) (hns : ns.length ≤ 63) {r n m a : Nat} (r4 : r ≤ 4) (n1 : 1 ≤ n) (m8 : m ≤ 8) (ha : a ≤ 220) : ∀ (j k : Nat) {L : Lanes} {Z : List Nat} {x6 x7 x8 : Option D}, k + j ≤ m → PK r n m k L Z →
    ∃ L' Z' x6' x7' x8', PK r n m (k + j) L' Z' ∧ forL (put 8) (b__law_park_1 ns) ((List.range' k j).map fun i : Nat => D.int i) [some (.opq 0 []), some (.int a), some (.int m), some (.int r), some (.lst (L.map D.str)), some (.lst (Z.map fun c => D.str [c])), x6, x7, x8] =
      .nxt [some (.opq 0 []), some (.int a), some (.int m), some (.int r), some (.lst (L'.map D.str)), some (.lst (Z'.map fun c => D.str [c])), x6', x7', x8']
  | 0, k, L, Z, x6, x7, x8, _, h => ⟨L, Z, x6, x7, x8, h, rfl⟩
  | j + 1, k, L, Z, x6, x7, x8, hkm, h => by
    have hR : 1 ≤ Z.length := by have := h.rest; omega
    obtain ⟨p, hp, ep⟩ := s_pick ns hns (k := a + 3 + 2 * k) (many := L.length) (by omega) (by rw [h.n]; exact n1)
    obtain ⟨q, hq, eq⟩ := s_pick ns hns (k := a + 4 + 2 * k) (many := Z.length) (by omega) hR
    have ep' : F__law_pick ns [.opq 0 [], .int ((a : Int) + 3 + 2 * (k : Int)), .int L.length] = .ok (.int p) := by
      have e : ((a + 3 + 2 * k : Nat) : Int) = (a : Int) + 3 + 2 * (k : Int) := by omega
      rw [← e]; exact ep
    have eq' : F__law_pick ns [.opq 0 [], .int ((a : Int) + 4 + 2 * (k : Int)), .int Z.length] = .ok (.int q) := by
      have e : ((a + 4 + 2 * k : Nat) : Int) = (a : Int) + 4 + 2 * (k : Int) := by omega
      rw [← e]; exact eq
    obtain ⟨c, hc⟩ : ∃ c, Z[q]? = some c := ⟨_, List.getElem?_eq_getElem hq⟩
    have hg := lanN_get hp
    have e1 : D.ix (.lst (L.map D.str)) (.int p) = .ok (.str (lanN L p)) := ev_ixLn (by rw [List.getElem?_map, hg]; rfl)
    have f3 : D.mul (.int 2) (.int k) = .ok (.int (2 * k)) := ev_mulR (by decide) (by decide)
    have hql : L2.ixN Z.length (q : Int) = some q := by
      unfold L2.ixN
      simp [hq]
    have hix : L2.ixN L.length (p : Int) = some p := by
      unfold L2.ixN
      simp [hp]
    have hlim : ¬ lim < Z.length := by have := h.rest; simp only [lim]; omega
    have hpop : ∀ y6 y7 : Option D, popS 5 7 (callV (F__law_pick ns) (consA (getV 0) (consA (bin D.add (bin D.add (getV 1) (cst (.int 4))) (bin D.mul (cst (.int 2)) (getV 8))) (consA (app D.len (consA (getV 5) nilA)) nilA)))) [some (.opq 0 []), some (.int a), some (.int m), some (.int r), some (.lst (L.map D.str)), some (.lst (Z.map fun c => D.str [c])), y6, y7, some (.int k)] =
        .nxt [some (.opq 0 []), some (.int a), some (.int m), some (.int r), some (.lst (L.map D.str)), some (.lst ((Z.eraseIdx q).map fun c => D.str [c])), y6, some (.str [c]), some (.int k)] := by
      intro y6 y7
      have hc' : (Z.map fun c => D.str [c])[q]? = some (D.str [c]) := by rw [List.getElem?_map, hc]; rfl
      have he : (Z.map fun c => D.str [c]).eraseIdx q = (Z.eraseIdx q).map fun c => D.str [c] := map_erase (fun c => D.str [c]) Z q
      unfold popS
      simp only [List.getElem?_cons_succ, List.getElem?_cons_zero, ev_call, ev_consA, ev_get, ev_bin, ev_cst, ev_nilA, ev_app, R.ok_bind, ev_addI, f3, ev_lenL, List.length_map, eq', ev_inS, if_neg hlim, hql, hc', he, List.set_cons_succ, List.set_cons_zero]
    by_cases hr : (lanN L p).length < r
    · have ht : t__law_park_1 ns [some (.opq 0 []), some (.int a), some (.int m), some (.int r), some (.lst (L.map D.str)), some (.lst ((Z.eraseIdx q).map fun c => D.str [c])), some (.int p), some (.str [c]), some (.int k)] = .ok true := by
        simp [t__law_park_1, e1, hr]
      obtain ⟨L', Z', y6, y7, y8, hI, e⟩ := park_loop ns hns r4 n1 m8 ha j (k + 1) (x6 := some (.int p)) (x7 := some (.str [c])) (x8 := some (.int k)) (by omega) (h.put hc hp hr)
      refine ⟨L', Z', y6, y7, y8, by rw [show k + (j + 1) = k + 1 + j from by omega]; exact hI, ?_⟩
      have hlen : (lanN L p).length + 1 ≤ 16777216 := by omega
      have fa := ev_addS (a := lanN L p) (b := [c]) (by simpa using hlen)
      have hset : (L.map D.str).set p (.str (lanN L p ++ [c])) = (L.set p (lanN L p ++ [c])).map D.str := by rw [List.map_set]
      have hb : b__law_park_1 ns [some (.opq 0 []), some (.int a), some (.int m), some (.int r), some (.lst (L.map D.str)), some (.lst (Z.map fun c => D.str [c])), x6, x7, some (.int k)] = .nxt [some (.opq 0 []), some (.int a), some (.int m), some (.int r), some (.lst ((L.set p (lanN L p ++ [c])).map D.str)), some (.lst ((Z.eraseIdx q).map fun c => D.str [c])), some (.int p), some (.str [c]), some (.int k)] := by
        simp [b__law_park_1, ep', f3, hpop, ht, itemS, e1, fa, hix]
      simp only [List.range'_succ, List.map_cons, forL, put, List.set_cons_succ, List.set_cons_zero, hb]
      exact e
    · have ht : t__law_park_1 ns [some (.opq 0 []), some (.int a), some (.int m), some (.int r), some (.lst (L.map D.str)), some (.lst ((Z.eraseIdx q).map fun c => D.str [c])), some (.int p), some (.str [c]), some (.int k)] = .ok false := by
        simp [t__law_park_1, e1, hr]
      obtain ⟨L', Z', y6, y7, y8, hI, e⟩ := park_loop ns hns r4 n1 m8 ha j (k + 1) (x6 := some (.int p)) (x7 := some (.str [c])) (x8 := some (.int k)) (by omega) (h.drop hc)
      refine ⟨L', Z', y6, y7, y8, by rw [show k + (j + 1) = k + 1 + j from by omega]; exact hI, ?_⟩
      have hb : b__law_park_1 ns [some (.opq 0 []), some (.int a), some (.int m), some (.int r), some (.lst (L.map D.str)), some (.lst (Z.map fun c => D.str [c])), x6, x7, some (.int k)] = .nxt [some (.opq 0 []), some (.int a), some (.int m), some (.int r), some (.lst (L.map D.str)), some (.lst ((Z.eraseIdx q).map fun c => D.str [c])), some (.int p), some (.str [c]), some (.int k)] := by
        simp [b__law_park_1, ep', f3, hpop, ht]
      simp only [List.range'_succ, List.map_cons, forL, put, List.set_cons_succ, List.set_cons_zero, hb]
      exact e
theorem s_park (ns : List Int) (hns : ns.length ≤ 63) (a m : Nat) (m8 : m ≤ 8) (ha : a ≤ 220) : ∃ r L, Ok r L ∧ L.flatten.length ≤ m ∧ F__law_park ns [.opq 0 [], .int a, .int m] = .ok (yd r L) := by
  obtain ⟨r, hr, er⟩ := s_pick ns hns (k := a) (many := 4) (by omega) (by decide)
  obtain ⟨n, hn, en⟩ := s_pick ns hns (k := a + 1) (many := 4) (by omega) (by decide)
  obtain ⟨d, hd, ed⟩ := s_pick ns hns (k := a + 2) (many := m + 1) (by omega) (by omega)
  have h0 : PK (r + 1) (n + 1) m 0 (List.replicate (n + 1) []) (([97, 98, 99, 100, 101, 102, 103, 104] : List Nat).take m) := by
    have hm : m = 0 ∨ m = 1 ∨ m = 2 ∨ m = 3 ∨ m = 4 ∨ m = 5 ∨ m = 6 ∨ m = 7 ∨ m = 8 := by omega
    refine ⟨by simp, fun l hl => ?_, ?_, ?_, by simp, ?_⟩
    · have := List.eq_of_mem_replicate hl; subst this; simp
    · rw [List.flatten_replicate_nil, List.nil_append]
      intro c hc
      have := List.mem_of_mem_take hc
      unfold isL
      simpa using this
    · rw [List.flatten_replicate_nil, List.nil_append]
      exact (by decide : ([97, 98, 99, 100, 101, 102, 103, 104] : List Nat).Nodup).sublist (List.take_sublist _ _)
    · rw [List.length_take]
      simp
      omega
  obtain ⟨L, Z, x6, x7, x8, hI, e⟩ := park_loop ns hns (r := r + 1) (n := n + 1) (by omega) (by omega) m8 ha d 0 (x6 := none) (x7 := none) (x8 := none) (by omega) h0
  refine ⟨r + 1, L, hI.ok (by omega) (by omega) (by omega) (by omega), Nat.le_trans hI.cars (by omega), ?_⟩
  have fr := rep_lanes n (by omega)
  have fw : wid 1000000 (d : Int) = true := wid_iff.2 ⟨by omega, by omega⟩
  have ed' : F__law_pick ns [.opq 0 [], .int ((a : Int) + 2), .int ((m : Int) + 1)] = .ok (.int d) := ed
  have er' : F__law_pick ns [.opq 0 [], .int a, .int 4] = .ok (.int r) := er
  have en' : F__law_pick ns [.opq 0 [], .int ((a : Int) + 1), .int 4] = .ok (.int n) := en
  have er1 : (1 : Int) + (r : Int) = ((r + 1 : Nat) : Int) := by omega
  have frng : ∀ y3 y4 y5 : Option D, rng1 (consA (callV (F__law_pick ns) (consA (getV 0) (consA (bin D.add (getV 1) (cst (.int 2))) (consA (bin D.add (getV 2) (cst (.int 1))) nilA)))) nilA)
      [some (.opq 0 []), some (.int a), some (.int m), y3, y4, y5, none, none, none] = .ok ((List.range' 0 d).map fun i : Nat => D.int i) := by
    intro y3 y4 y5
    unfold rng1
    simp only [ev_consA, ev_call, ev_get, ev_bin, ev_cst, ev_nilA, List.getElem?_cons_succ, List.getElem?_cons_zero, R.ok_bind, ev_addI]
    rw [ed']
    simp only [R.ok_bind, fw, if_true, rngL, Int.toNat_natCast, Int.zero_add, List.range_eq_range']
  have hf : ∀ b, b = b__law_park_1 ns → forS (rng1 (consA (callV (F__law_pick ns) (consA (getV 0) (consA (bin D.add (getV 1) (cst (.int 2))) (consA (bin D.add (getV 2) (cst (.int 1))) nilA)))) nilA)) (put 8) b
      [some (.opq 0 []), some (.int a), some (.int m), some (.int ((r + 1 : Nat) : Int)), some (.lst ((List.replicate (n + 1) ([] : List Nat)).map D.str)), some (.lst ((([97, 98, 99, 100, 101, 102, 103, 104] : List Nat).take m).map fun c => D.str [c])), none, none, none] = .nxt [some (.opq 0 []), some (.int a), some (.int m), some (.int ((r + 1 : Nat) : Int)), some (.lst (L.map D.str)), some (.lst (Z.map fun c => D.str [c])), x6, x7, x8] := by
    rintro b rfl
    unfold forS
    rw [frng]
    exact e
  have hcut : ∀ y3 y4 : Option D, cutN (app D.listS (consA (cst (.str [97, 98, 99, 100, 101, 102, 103, 104])) nilA)) noP (inP (getV 2)) [some (.opq 0 []), some (.int a), some (.int m), y3, y4, none, none, none, none] = .ok (.lst ((([97, 98, 99, 100, 101, 102, 103, 104] : List Nat).take m).map fun c => D.str [c])) := by
    intro y3 y4
    have hm : m = 0 ∨ m = 1 ∨ m = 2 ∨ m = 3 ∨ m = 4 ∨ m = 5 ∨ m = 6 ∨ m = 7 ∨ m = 8 := by omega
    rcases hm with rfl | rfl | rfl | rfl | rfl | rfl | rfl | rfl | rfl <;> rfl
  have w1 : (0 + 1 ≤ 16777216) = True := by simp
  have w2 : (0 + 1 + 1 ≤ 16777216) = True := by simp
  show outD (m__law_park ns [some (.opq 0 []), some (.int a), some (.int m), none, none, none, none, none, none]) = _
  unfold m__law_park
  simp only [ev_seq, ev_set, ev_par2, ev_bin, ev_lst, ev_consA, ev_nilA, ev_cst, ev_get, ev_call, List.getElem?_cons_succ, List.getElem?_cons_zero, R.ok_bind, en', er', ev_addI, List.length_cons, List.length_nil, w1, if_true, fr, ev_inA, set2, ev_inS, hcut, List.set_cons_succ, List.set_cons_zero, er1, hf _ rfl, ev_ret, ev_tup, ev_tupOf, w2]
  rfl

end K53

namespace K53
open CL CY
theorem ord_in {kn : List Nat} (hk : kn.length ≤ 8) (hs : srt kn = kn) {Fo T : Option D} : ∀ (fs acc : List (List Nat)) {x4 : Option D}, (∀ p ∈ fs, p.length ≤ 100) → acc.length + fs.length * 8 ≤ 10000000 →
    ∃ y4, forL (put 4) b__law_orders_1 (fs.map D.str) [some (.lst (kn.map fun c => D.str [c])), Fo, some (.lst (acc.map D.str)), T, x4, none] = .nxt [some (.lst (kn.map fun c => D.str [c])), Fo, some (.lst ((acc ++ longer kn fs).map D.str)), T, y4, none]
  | [], acc, x4, _, _ => ⟨x4, by simp [forL, longer]⟩
  | p :: fs, acc, x4, hp, hl => by
    have hpl := hp p (by simp)
    have hsort : D.sorted [.lst (kn.map fun c => D.str [c])] = .ok (.lst (kn.map fun c => D.str [c])) := by
      have := ev_sortL kn (by omega)
      rw [hs, List.map_map] at this
      exact this
    have hq : q__law_orders_1 [some (.lst (kn.map fun c => D.str [c])), Fo, some (.lst (acc.map D.str)), T, some (.str p), none] = .ok (.lst (((kn.filter fun c => !decide (c ∈ p)).map fun c => p ++ [c]).map D.str)) :=
      lcV_put (f := fun c : Nat => D.str [c]) D.str (fun c => !decide (c ∈ p)) (fun c => p ++ [c]) (by simp [-List.map_map, lstOf, hsort]) (by omega) fun c hc => ⟨by simp, fun _ => by
        have := ev_addS (a := p) (b := [c]) (by simp; omega)
        simp [this]⟩
    have hfl := List.length_filter_le (fun c => !decide (c ∈ p)) kn
    rw [List.length_cons] at hl
    have hle : (acc.map D.str).length + (((kn.filter fun c => !decide (c ∈ p)).map fun c => p ++ [c]).map D.str).length ≤ lim := by
      simp only [List.length_map, lim]; omega
    have hb : b__law_orders_1 [some (.lst (kn.map fun c => D.str [c])), Fo, some (.lst (acc.map D.str)), T, some (.str p), none] = .nxt [some (.lst (kn.map fun c => D.str [c])), Fo, some (.lst ((acc ++ ((kn.filter fun c => !decide (c ∈ p)).map fun c => p ++ [c])).map D.str)), T, some (.str p), none] := by
      unfold b__law_orders_1 extS
      simp only [List.getElem?_cons_succ, List.getElem?_cons_zero, hq, ev_inS, if_pos hle, List.set_cons_succ, List.set_cons_zero, ← List.map_append]
    obtain ⟨y4, e⟩ := ord_in hk hs fs (acc ++ ((kn.filter fun c => !decide (c ∈ p)).map fun c => p ++ [c])) (x4 := some (.str p)) (fun q hq => hp q (by simp [hq])) (by rw [List.length_append, List.length_map]; omega)
    refine ⟨y4, ?_⟩
    rw [List.map_cons]
    simp only [forL, put, List.set_cons_succ, List.set_cons_zero, hb]
    rw [e]
    simp [longer]
theorem ord_out {kn : List Nat} (hk : kn.length ≤ 6) (hs : srt kn = kn) : ∀ (n k : Nat) (fs : List (List Nat)) {x2 x3 x4 : Option D}, (∀ p ∈ fs, p.length ≤ k) → k + n ≤ 6 → fs.length ≤ 6 ^ k →
    ∃ y2 y3 y4, forL (put 3) b__law_orders_2 ((List.range' k n).map fun i : Nat => D.int i) [some (.lst (kn.map fun c => D.str [c])), some (.lst (fs.map D.str)), x2, x3, x4, none] = .nxt [some (.lst (kn.map fun c => D.str [c])), some (.lst ((rounds kn n fs).map D.str)), y2, y3, y4, none]
  | 0, k, fs, x2, x3, x4, _, _, _ => ⟨x2, x3, x4, by simp [forL, rounds]⟩
  | n + 1, k, fs, x2, x3, x4, hp, hk5, hl => by
    have h5 : (6 : Nat) ^ k ≤ 6 ^ 6 := Nat.pow_le_pow_right (by decide) (by omega)
    have h55 : (6 : Nat) ^ 6 = 46656 := by decide
    obtain ⟨z4, e1⟩ := ord_in (kn := kn) (by omega) hs (Fo := some (.lst (fs.map D.str))) (T := some (.int k)) fs [] (x4 := x4) (fun p h => by have := hp p h; omega) (by simp; omega)
    have hb : b__law_orders_2 [some (.lst (kn.map fun c => D.str [c])), some (.lst (fs.map D.str)), x2, some (.int k), x4, none] = .nxt [some (.lst (kn.map fun c => D.str [c])), some (.lst ((longer kn fs).map D.str)), some (.lst ((longer kn fs).map D.str)), some (.int k), z4, none] := by
      rw [List.nil_append, List.map_nil] at e1
      have hfor : forS (lstOf (getV 1)) (put 4) b__law_orders_1 [some (.lst (kn.map fun c => D.str [c])), some (.lst (fs.map D.str)), some (.lst []), some (.int k), x4, none] = .nxt [some (.lst (kn.map fun c => D.str [c])), some (.lst (fs.map D.str)), some (.lst ((longer kn fs).map D.str)), some (.int k), z4, none] := by
        unfold forS lstOf
        simp only [ev_get, List.getElem?_cons_succ, List.getElem?_cons_zero, R.ok_bind, ev_inA]
        exact e1
      simp [-List.map_map, b__law_orders_2, hfor]
    have hl2 := longer_len kn fs
    have hl3 : (longer kn fs).length ≤ 6 ^ (k + 1) := by
      rw [Nat.pow_succ]
      exact Nat.le_trans hl2 (Nat.mul_le_mul hl hk)
    obtain ⟨y2, y3, y4, e⟩ := ord_out hk hs n (k + 1) (longer kn fs) (x2 := some (.lst ((longer kn fs).map D.str))) (x3 := some (.int k)) (x4 := z4) (fun q hq => by
      obtain ⟨p, h, c, rfl⟩ := mem_longer hq
      have := hp p h
      simp; omega) (by omega) hl3
    refine ⟨y2, y3, y4, ?_⟩
    rw [List.range'_succ, List.map_cons]
    simp only [forL, put, List.set_cons_succ, List.set_cons_zero, hb]
    exact e
theorem s__law_orders {kn : List Nat} (hk : kn.length ≤ 6) (hs : srt kn = kn) : F__law_orders [.lst (kn.map fun c => D.str [c])] = .ok (.lst ((ords kn).map D.str)) := by
  obtain ⟨y2, y3, y4, e⟩ := ord_out hk hs kn.length 0 [[]] (x2 := none) (x3 := none) (x4 := none) (by simp) (by omega) (by simp)
  have fw : wid 1000000 (kn.length : Int) = true := wid_iff.2 ⟨by omega, by omega⟩
  have hf : forS (rng1 (consA (app D.len (consA (getV 0) nilA)) nilA)) (put 3) b__law_orders_2 [some (.lst (kn.map fun c => D.str [c])), some (.lst [.str []]), none, none, none, none] = .nxt [some (.lst (kn.map fun c => D.str [c])), some (.lst ((ords kn).map D.str)), y2, y3, y4, none] := by
    unfold forS rng1
    simp only [ev_app, ev_consA, ev_get, ev_nilA, List.getElem?_cons_succ, List.getElem?_cons_zero, R.ok_bind, ev_lenL, List.length_map, fw, if_true, rngL, Int.toNat_natCast, Int.zero_add, List.range_eq_range', ev_inA]
    exact e
  simp [-List.map_map, F__law_orders, m__law_orders, hf]

end K53

namespace K53
open CL CY
theorem lg_tops {L : Lanes} (hn : L.length ≤ 4) {S B x3 x4 : Option D} : q__law_goes_1 [some (.tup (L.map D.str)), S, B, x3, x4, none] = .ok (.lst (((nes L).map topOf).map fun c => D.str [c])) :=
  lcV_put (f := D.str) (fun c => D.str [c]) (fun l => l != []) topOf (by simp [tupOf]) (by omega) fun l hl => by
    refine ⟨by simp, fun hp => ?_⟩
    have := ev_ixSl (topOf_eq (by simpa using hp))
    simp [this]
theorem lg_bots {L : Lanes} (hn : L.length ≤ 4) {S B x3 x4 : Option D} : q__law_goes_2 [some (.tup (L.map D.str)), S, B, x3, x4, none] = .ok (.lst (((nes L).map botOf).map fun c => D.str [c])) :=
  lcV_put (f := D.str) (fun c => D.str [c]) (fun l => l != []) botOf (by simp [tupOf]) (by omega) fun l hl => by
    refine ⟨by simp, fun hp => ?_⟩
    have := ev_ixSn (k := 0) (botOf_eq (by simpa using hp))
    simp at this
    simp [this]
theorem lg_strike {L : Lanes} (hn : L.length ≤ 4) {c : Nat} {S B x3 : Option D} : q__law_goes_3 [some (.tup (L.map D.str)), S, B, x3, some (.str [c]), none] = .ok (.lst ((strike L c).map D.str)) :=
  lcV_all (f := D.str) D.str (fun l : List Nat => l.filter (· != c)) (by simp [tupOf]) (by omega) fun l hl => by simp [ev_strike]
theorem lg_body {L : Lanes} (hn : L.length ≤ 4) {c : Nat} {d : Bool} {S x3 : Option D} :
    b__law_goes_1 [some (.tup (L.map D.str)), S, some (.bl d), x3, some (.str [c]), none] = if c ∈ sides d L then .nxt [some (.tup ((strike L c).map D.str)), S, some (.bl d), some (.lst ((sides d L).map fun c => D.str [c])), some (.str [c]), none] else .ret (.bl false) := by
  have hl := nes_len L
  have t1 : ∀ x3, t__law_goes_1 [some (.tup (L.map D.str)), S, some (.bl d), x3, some (.str [c]), none] = .ok d := by
    intro x3
    simp [t__law_goes_1]
  have hadd := addLLs (a := ((nes L).map topOf).map fun c => D.str [c]) (b := ((nes L).map botOf).map fun c => D.str [c]) (by simp only [List.length_map]; omega)
  have t2 : t__law_goes_2 [some (.tup (L.map D.str)), S, some (.bl d), some (.lst ((sides d L).map fun c => D.str [c])), some (.str [c]), none] = .ok (!decide (c ∈ sides d L)) := by
    simp [-List.map_map, t__law_goes_2, notinSigns]
  have key : ∀ δ, δ = [some (.tup (L.map D.str)), S, some (.bl d), some (.lst ((sides d L).map fun c => D.str [c])), some (.str [c]), none] → seqS (ifS t__law_goes_2 (retS (cst (.bl false))) Out.nxt) (setS 0 (tupOfV q__law_goes_3)) δ = if c ∈ sides d L then .nxt [some (.tup ((strike L c).map D.str)), S, some (.bl d), some (.lst ((sides d L).map fun c => D.str [c])), some (.str [c]), none] else .ret (.bl false) := by
    rintro δ rfl
    by_cases h : c ∈ sides d L
    · rw [if_pos h]
      rw [decide_eq_true h, Bool.not_true] at t2
      simp only [ev_seq, ev_ifS, t2, ev_inT, Bool.false_eq_true, if_false, ev_set, ev_tupOf, lg_strike hn, R.ok_bind, ev_inS, List.set_cons_zero]
    · rw [if_neg h]
      rw [decide_eq_false h, Bool.not_false] at t2
      simp only [ev_seq, ev_ifS, t2, ev_inT, if_true, ev_ret, ev_cst, ev_inS]
  cases d with
  | true =>
    have es : ((nes L).map topOf).map (fun c => D.str [c]) ++ ((nes L).map botOf).map (fun c => D.str [c]) = (sides true L).map fun c => D.str [c] := by
      unfold sides
      rw [if_pos rfl, List.map_append]
    rw [es] at hadd
    unfold b__law_goes_1
    rw [ev_seq, ev_set, lg_tops hn]
    simp only [ev_inS, List.set_cons_succ, List.set_cons_zero]
    rw [ev_seq, ev_ifS, t1]
    simp only [ev_inT, if_true, ev_set, ev_bin, ev_get, List.getElem?_cons_succ, List.getElem?_cons_zero, R.ok_bind, lg_bots hn, hadd, ev_inS, List.set_cons_succ, List.set_cons_zero]
    exact key _ rfl
  | false =>
    have es : ((nes L).map topOf).map (fun c => D.str [c]) = (sides false L).map fun c => D.str [c] := by
      unfold sides
      simp
    unfold b__law_goes_1
    rw [ev_seq, ev_set, lg_tops hn, es]
    simp only [ev_inS, List.set_cons_succ, List.set_cons_zero]
    rw [ev_seq, ev_ifS, t1]
    simp only [ev_inT, Bool.false_eq_true, if_false]
    exact key _ rfl
theorem lg_loop {d : Bool} {S : Option D} : ∀ (s : List Nat) {L : Lanes} {x3 x4 : Option D}, L.length ≤ 4 →
    (goB d L s = true → ∃ (L' : Lanes) (y3 y4 : Option D), forL (put 4) b__law_goes_1 (s.map fun c => D.str [c]) [some (.tup (L.map D.str)), S, some (.bl d), x3, x4, none] = .nxt [some (.tup (L'.map D.str)), S, some (.bl d), y3, y4, none]) ∧
    (goB d L s = false → forL (put 4) b__law_goes_1 (s.map fun c => D.str [c]) [some (.tup (L.map D.str)), S, some (.bl d), x3, x4, none] = .ret (.bl false))
  | [], L, x3, x4, _ => ⟨fun _ => ⟨L, x3, x4, rfl⟩, fun h => by simp [goB] at h⟩
  | c :: s, L, x3, x4, hn => by
    have hb := lg_body hn (c := c) (d := d) (S := S) (x3 := x3)
    by_cases h : c ∈ sides d L
    · rw [if_pos h] at hb
      obtain ⟨i1, i2⟩ := lg_loop (d := d) (S := S) s (L := strike L c) (x3 := some (.lst ((sides d L).map fun c => D.str [c]))) (x4 := some (.str [c])) (by rw [strike_len]; exact hn)
      simp only [goB, h, decide_true, Bool.true_and, List.map_cons, forL, put, List.set_cons_succ, List.set_cons_zero, hb]
      exact ⟨i1, i2⟩
    · rw [if_neg h] at hb
      simp only [goB, h, decide_false, Bool.false_and, List.map_cons, forL, put, List.set_cons_succ, List.set_cons_zero, hb]
      exact ⟨fun z => Bool.noConfusion z, fun _ => trivial⟩
theorem s__law_goes {d : Bool} {L : Lanes} (hn : L.length ≤ 4) (s : List Nat) : F__law_goes [.tup (L.map D.str), .str s, .bl d] = .ok (.bl (goB d L s)) := by
  obtain ⟨h1, h2⟩ := lg_loop (d := d) (S := some (.str s)) s (L := L) (x3 := none) (x4 := none) hn
  have hf : forS (strOf (getV 1)) (put 4) b__law_goes_1 [some (.tup (L.map D.str)), some (.str s), some (.bl d), none, none, none] = forL (put 4) b__law_goes_1 (s.map fun c => D.str [c]) [some (.tup (L.map D.str)), some (.str s), some (.bl d), none, none, none] := by
    unfold forS
    rw [strOf_str (s := s) (by simp)]
    rfl
  cases e : goB d L s with
  | true =>
    obtain ⟨L', y3, y4, g⟩ := h1 e
    simp [F__law_goes, m__law_goes, hf, g]
  | false => simp [F__law_goes, m__law_goes, hf, h2 e]
theorem s_ends {L : Lanes} (hn : L.length ≤ 4) : F_ends [.tup (L.map D.str)] = .ok (.lst ((endsL L).map fun c => D.str [c])) := by
  have h1 : q_ends_1 [some (.tup (L.map D.str)), none, none] = .ok (.lst (((nes L).map botOf).map fun c => D.str [c])) :=
    lcV_put (f := D.str) (fun c => D.str [c]) (fun l => l != []) botOf (by simp [tupOf]) (by omega) fun l hl => by
      refine ⟨by simp, fun hp => ?_⟩
      have := ev_ixSn (k := 0) (botOf_eq (by simpa using hp))
      simp at this
      simp [this]
  have h2 : q_ends_2 [some (.tup (L.map D.str)), none, none] = .ok (.lst (((nes L).map topOf).map fun c => D.str [c])) :=
    lcV_put (f := D.str) (fun c => D.str [c]) (fun l => l != []) topOf (by simp [tupOf]) (by omega) fun l hl => by
      refine ⟨by simp, fun hp => ?_⟩
      have := ev_ixSl (topOf_eq (by simpa using hp))
      simp [this]
  have hl := nes_len L
  have ha : D.add (.lst (((nes L).map botOf).map fun c => D.str [c])) (.lst (((nes L).map topOf).map fun c => D.str [c])) = .ok (.lst (((nes L).map botOf ++ (nes L).map topOf).map fun c => D.str [c])) := by
    rw [ev_addL (by simp only [List.length_map]; omega), ← List.map_append]
  have hs := ev_ends (f := getV 1) (δ := [some (.tup (L.map D.str)), some (.lst (((nes L).map botOf ++ (nes L).map topOf).map fun c => D.str [c])), none]) (l := (nes L).map botOf ++ (nes L).map topOf) (by rw [ev_get]; rfl) (by simp only [List.length_append, List.length_map]; omega)
  show outD (m_ends [some (.tup (L.map D.str)), none, none]) = _
  unfold m_ends
  simp only [ev_seq, ev_set, ev_bin, h1, h2, R.ok_bind, ha, ev_inS, List.set_cons_succ, List.set_cons_zero, ev_ret, hs]
  rfl
theorem s_drop {L : Lanes} (hn : L.length ≤ 4) (c : Nat) : F_drop [.tup (L.map D.str), .str [c]] = .ok (.tup ((strike L c).map D.str)) := by
  have hq : q_drop_1 [some (.tup (L.map D.str)), some (.str [c]), none] = .ok (.lst ((strike L c).map D.str)) :=
    lcV_all (f := D.str) D.str (fun l : List Nat => l.filter (· != c)) (by simp [tupOf]) (by omega) fun l hl => by simp [ev_strike]
  simp [-List.map_map, F_drop, m_drop, hq]
theorem ib_loop {Y S : Option D} : ∀ (s : List Nat) {L : Lanes} {x3 : Option D}, L.length ≤ 4 →
    (goB true L s = true → ∃ (L' : Lanes) (y3 : Option D), forL (put 3) b_is_both_1 (s.map fun c => D.str [c]) [Y, S, some (.tup (L.map D.str)), x3] = .nxt [Y, S, some (.tup (L'.map D.str)), y3]) ∧
    (goB true L s = false → forL (put 3) b_is_both_1 (s.map fun c => D.str [c]) [Y, S, some (.tup (L.map D.str)), x3] = .ret (.bl false))
  | [], L, x3, _ => ⟨fun _ => ⟨L, x3, rfl⟩, fun h => by simp [goB] at h⟩
  | c :: s, L, x3, hn => by
    have t2 : t_is_both_2 [Y, S, some (.tup (L.map D.str)), some (.str [c])] = .ok (!decide (c ∈ sides true L)) := by
      have : decide (c ∈ endsL L) = decide (c ∈ sides true L) := decide_eq_decide.2 mem_endsL
      rw [← this]
      simp [-List.map_map, t_is_both_2, s_ends hn, notinSigns]
    by_cases h : c ∈ sides true L
    · rw [decide_eq_true h, Bool.not_true] at t2
      have hb : b_is_both_1 [Y, S, some (.tup (L.map D.str)), some (.str [c])] = .nxt [Y, S, some (.tup ((strike L c).map D.str)), some (.str [c])] := by
        unfold b_is_both_1 ifRet
        simp [-List.map_map, t2, s_drop hn]
      obtain ⟨i1, i2⟩ := ib_loop (Y := Y) (S := S) s (L := strike L c) (x3 := some (.str [c])) (by rw [strike_len]; exact hn)
      simp only [goB, h, decide_true, Bool.true_and, List.map_cons, forL, put, List.set_cons_succ, List.set_cons_zero, hb]
      exact ⟨i1, i2⟩
    · rw [decide_eq_false h, Bool.not_false] at t2
      have hb : b_is_both_1 [Y, S, some (.tup (L.map D.str)), some (.str [c])] = .ret (.bl false) := by
        unfold b_is_both_1 ifRet
        simp [-List.map_map, t2]
      simp only [goB, h, decide_false, Bool.false_and, List.map_cons, forL, put, List.set_cons_succ, List.set_cons_zero, hb]
      exact ⟨fun z => Bool.noConfusion z, fun _ => trivial⟩
theorem s_is_both {r : Nat} {L : Lanes} (o : Ok r L) {s : List Nat} (pm : s.Perm L.flatten) : F_is_both [yd r L, .str s] = .ok (.bl (goB true L s)) := by
  obtain ⟨h1, h2⟩ := ib_loop (Y := some (yd r L)) (S := some (.str s)) s (L := L) (x3 := none) o.n4
  have hlen : s.length < 64 := by
    have h1 := flat_le o.len
    have h2 := Nat.mul_le_mul o.r4 o.n4
    have := pm.length_eq
    omega
  have t1 : t_is_both_1 [some (yd r L), some (.str s), none, none] = .ok false := by
    have e : srt s = srt L.flatten := srt_congr pm
    simp [t_is_both_1, s_find_cars o, s_has_order hlen, e]
  have hf : forS (strOf (getV 1)) (put 3) b_is_both_1 [some (yd r L), some (.str s), some (.tup (L.map D.str)), none] = forL (put 3) b_is_both_1 (s.map fun c => D.str [c]) [some (yd r L), some (.str s), some (.tup (L.map D.str)), none] := by
    unfold forS
    rw [strOf_str (s := s) (by simp)]
    rfl
  have hx : D.ix (yd r L) (.int 1) = .ok (.tup (L.map D.str)) := ydix1 r L
  cases e : goB true L s with
  | true =>
    obtain ⟨L', y3, g⟩ := h1 e
    simp [-List.map_map, F_is_both, m_is_both, s_check_yard o, t1, hx, hf, g]
  | false => simp [-List.map_map, F_is_both, m_is_both, s_check_yard o, t1, hx, hf, h2 e]
theorem s_find_both {r : Nat} {L : Lanes} (o : Ok r L) : F_find_both [yd r L] = .ok (.int (cnt L * 2 ^ exB L)) := by
  have hn := o.n4
  have hq : q_find_both_1 [some (yd r L), none] = .ok (.lst (((nes L).map fun l => ((l.length : Int) - 1)).map D.int)) :=
    lcV_put (f := D.str) D.int (fun l => l != []) (fun l => (l.length : Int) - 1) (by simp [tupOf, ydix1]) (by omega) fun l hl => by
      refine ⟨by simp, fun hp => ?_⟩
      simp
  have hs : D.sum [.lst (((nes L).map fun l => ((l.length : Int) - 1)).map D.int)] = .ok (.int (exB L)) := by
    show (match allInt (((nes L).map fun l => ((l.length : Int) - 1)).map D.int) with | some bs => R.ok (D.int bs.sum) | none => .bad) = _
    rw [allInt_map]
    simp only [exB_sum]
  have h16 := exB_le o
  have hc := cnt_le8 o
  have hsh : D.shl (.int (cnt L)) (.int (exB L)) = .ok (.int (cnt L * 2 ^ exB L)) := by
    show (if wid 18446744073709551615 (cnt L : Int) = true ∧ wid 1000 (exB L : Int) = true ∧ 0 ≤ (exB L : Int) then R.ok (D.int ((cnt L : Int) * 2 ^ (exB L : Int).toNat)) else .bad) = _
    rw [if_pos ⟨wid_iff.2 ⟨by omega, by omega⟩, wid_iff.2 ⟨by omega, by omega⟩, by omega⟩]
    simp
  simp [-List.map_map, F_find_both, m_find_both, s_find_count o, hq, hs, hsh]
theorem s_count_both {r : Nat} {L : Lanes} (o : Ok r L) : F_count_both [yd r L] = .ok (.int (cnt L * 2 ^ exB L)) := by
  simp [F_count_both, m_count_both, s_check_yard o, s_find_both o]

end K53

namespace K53
open CL CY
theorem srt_srt (l : List Nat) : srt (srt l) = srt l := srt_congr (srt_perm l)
theorem free_len {r : Nat} {L : Lanes} (o : Ok r L) : ((ords (srt L.flatten)).filter (goB false L)).length = cnt L := by
  have e : (ords (srt L.flatten)).filter (goB false L) = (ords (srt L.flatten)).filter (frB L) := List.filter_congr fun s hs => goB_free o (ords_perm o.nd hs)
  rw [e, ords_free o]
  simp
theorem both_len {r : Nat} {L : Lanes} (o : Ok r L) : ((ords (srt L.flatten)).filter (goB true L)).length = cnt L * 2 ^ exB L := by
  rw [ords_both o]
  exact bos_len _ o rfl
theorem sort_join {r : Nat} {L : Lanes} (o : Ok r L) : D.sorted [.str L.flatten] = .ok (.lst ((srt L.flatten).map fun c => D.str [c])) := by
  have h1 := flat_le o.len
  have h2 := Nat.mul_le_mul o.r4 o.n4
  have := ev_sortS L.flatten (by omega)
  rw [List.map_map] at this
  exact this
theorem s_free_both {r : Nat} {L : Lanes} (o : Ok r L) : F_free_both [yd r L] = .ok (.str (endsL L)) := by
  have h1 := ends_len o
  have hj := ev_joinSig (endsL L) (by omega)
  have hx : D.ix (yd r L) (.int 1) = .ok (.tup (L.map D.str)) := ydix1 r L
  simp [-List.map_map, F_free_both, m_free_both, s_check_yard o, hx, s_ends o.n4, hj]
theorem s_gained {r : Nat} {L : Lanes} (o : Ok r L) : F_gained [yd r L] = .ok (.int (((cnt L * 2 ^ exB L : Nat) : Int) - (cnt L : Int))) := by
  simp [F_gained, m_gained, s_check_yard o, s_find_both o, s_find_count o]
theorem fb_loop {r : Nat} {Y : Option D} : ∀ (n : Nat) {L : Lanes} {p : List Nat} {m : Nat} {x3 : Option D}, Ok r L → L.flatten.length = n → p.length + n ≤ 100 → n < m →
    ∃ y1 y3, whileL t_first_both_1 b_first_both_1 m [Y, some (.tup (L.map D.str)), some (.str p), x3] = .nxt [Y, y1, some (.str (p ++ gr n L)), y3]
  | n, L, p, 0, x3, o, hn, hp, hm => absurd hm (Nat.not_lt_zero _)
  | n, L, p, m + 1, x3, o, hn, hp, hm => by
    have hne : D.ne (.lst ((endsL L).map fun c => D.str [c])) (.lst []) = .ok (.bl !(endsL L).isEmpty) := ne_nil (fun c => D.str [c]) (fun _ => rfl) _
    have ht : t_first_both_1 [Y, some (.tup (L.map D.str)), some (.str p), x3] = .ok (!(endsL L).isEmpty) := by
      simp [-List.map_map, t_first_both_1, s_ends o.n4, hne]
    cases n with
    | zero =>
      have h0 : L.flatten = [] := List.length_eq_zero_iff.1 hn
      have he : endsL L = [] := by
        rw [List.eq_nil_iff_forall_not_mem]
        intro c hc
        have := sides_flat (mem_endsL.1 hc)
        rw [h0] at this
        simp at this
      rw [he] at ht
      refine ⟨some (.tup (L.map D.str)), x3, ?_⟩
      unfold whileL
      rw [ht]
      simp only [ev_inT, List.isEmpty_nil, Bool.not_true, Bool.false_eq_true, if_false, gr, List.append_nil]
    | succ n =>
      have hne' : L.flatten ≠ [] := fun e => by rw [e] at hn; simp at hn
      have hen := ends_ne (r := r) hne'
      cases e : endsL L with
      | nil => exact absurd e hen
      | cons c cs =>
        have hc : c ∈ L.flatten := sides_flat (mem_endsL.1 (by rw [e]; simp))
        rw [e] at ht
        have hh : headOf F_ends 1 [Y, some (.tup (L.map D.str)), some (.str p), x3] = .ok (.str [c]) := by
          have hl : (L.map D.str).length ≤ 31 := by have := o.n4; simp; omega
          unfold headOf
          simp only [List.getElem?_cons_succ, List.getElem?_cons_zero, allStr_map, Option.isSome_some, Bool.true_and, decide_eq_true hl, if_true, s_ends o.n4, e, List.map_cons]
        have ha := ev_addS (a := p) (b := [c]) (by simp; omega)
        have hb : b_first_both_1 [Y, some (.tup (L.map D.str)), some (.str p), x3] = .nxt [Y, some (.tup ((strike L c).map D.str)), some (.str (p ++ [c])), some (.str [c])] := by
          unfold b_first_both_1
          simp only [ev_seq, ev_set, hh, ev_inS, List.set_cons_succ, List.set_cons_zero, ev_par2, ev_consA, ev_call, ev_get, ev_nilA, ev_bin, List.getElem?_cons_succ, List.getElem?_cons_zero, R.ok_bind, s_drop o.n4, ha, ev_inA, set2]
        obtain ⟨y1, y3, ih⟩ := fb_loop (Y := Y) n (L := strike L c) (p := p ++ [c]) (m := m) (x3 := some (.str [c])) (o.strike c) (by have := strike_tot o.nd hc; omega) (by simp; omega) (by omega)
        refine ⟨y1, y3, ?_⟩
        unfold whileL
        rw [ht]
        simp only [ev_inT, List.isEmpty_cons, Bool.not_false, if_true, hb, ih]
        rw [gr, e]
        simp
theorem s_first_both {r : Nat} {L : Lanes} (o : Ok r L) : F_first_both [yd r L] = .ok (.str (gr L.flatten.length L)) := by
  have ht := o.tot
  obtain ⟨y1, y3, h⟩ := fb_loop (Y := some (yd r L)) L.flatten.length (L := L) (p := []) (m := 20) (x3 := none) o rfl (by rw [List.length_nil]; omega) (by omega)
  have hx : D.ix (yd r L) (.int 1) = .ok (.tup (L.map D.str)) := ydix1 r L
  show outD (m_first_both [some (yd r L), none, none, none]) = _
  unfold m_first_both
  simp only [ev_seq, ev_expr, ev_call, ev_consA, ev_get, ev_nilA, List.getElem?_cons_succ, List.getElem?_cons_zero, R.ok_bind, s_check_yard o, ev_inS, ev_par2, ev_bin, ev_cst, hx, ev_inA, set2, List.set_cons_succ, List.set_cons_zero, h, ev_ret, List.nil_append]
  rfl
end K53

namespace K53
open CL CY
def gd (L : Lanes) : List (List Nat) := (ords (srt L.flatten)).filter (goB true L)
theorem orders_loop (ns : List Int) {L : Lanes} (hn : L.length ≤ 4) {a1 a3 a4 a8 a10 a11 a12 : Option D} : ∀ (os acc : List (List Nat)) (n : Nat) {x7 x9 : Option D}, acc.length + os.length ≤ 50000 →
    ∃ y7 y9, forL (put 9) (b_law_1 ns) (os.map D.str) [some (.opq 0 []), a1, some (.tup (L.map D.str)), a3, a4, some (.lst (acc.map D.str)), some (.int n), x7, a8, x9, a10, a11, a12, none] =
      .nxt [some (.opq 0 []), a1, some (.tup (L.map D.str)), a3, a4, some (.lst ((acc ++ os.filter (goB true L)).map D.str)), some (.int ((n + (os.filter (goB false L)).length : Nat) : Int)), y7, a8, y9, a10, a11, a12, none]
  | [], acc, n, x7, x9, _ => ⟨x7, x9, by simp [forL]⟩
  | s :: os, acc, n, x7, x9, hl => by
    rw [List.length_cons] at hl
    have hlim : (acc.map D.str).length < lim := by simp only [List.length_map, lim]; omega
    have hgo : ∀ d, F__law_goes [.tup (L.map D.str), .str s, .bl d] = .ok (.bl (goB d L s)) := fun d => s__law_goes hn s
    have hb : b_law_1 ns [some (.opq 0 []), a1, some (.tup (L.map D.str)), a3, a4, some (.lst (acc.map D.str)), some (.int n), x7, a8, some (.str s), a10, a11, a12, none] =
        .nxt [some (.opq 0 []), a1, some (.tup (L.map D.str)), a3, a4, some (.lst ((if goB true L s then acc ++ [s] else acc).map D.str)), some (.int ((if goB false L s then n + 1 else n : Nat) : Int)), some (.bl (goB true L s)), a8, some (.str s), a10, a11, a12, none] := by
      unfold b_law_1 t_law_2
      cases e1 : goB true L s <;> cases e2 : goB false L s <;>
        simp only [ev_seq, ev_set, ev_call, ev_consA, ev_get, ev_cst, ev_nilA, List.getElem?_cons_succ, List.getElem?_cons_zero, R.ok_bind, hgo, e1, e2, ev_inS, List.set_cons_succ, List.set_cons_zero, ev_bin, ev_ifV, ev_tst, Bool.false_eq_true, if_false, if_true, ev_addI, ev_ifS, ev_inT, appS, hlim, List.map_append, List.map_cons, List.map_nil, Int.add_zero, Int.natCast_add, Int.natCast_one]
    obtain ⟨y7, y9, ih⟩ := orders_loop ns hn (a1 := a1) (a3 := a3) (a4 := a4) (a8 := a8) (a10 := a10) (a11 := a11) (a12 := a12) os (if goB true L s then acc ++ [s] else acc) (if goB false L s then n + 1 else n) (x7 := some (.bl (goB true L s))) (x9 := some (.str s)) (by split <;> (try simp only [List.length_append, List.length_cons, List.length_nil]) <;> omega)
    refine ⟨y7, y9, ?_⟩
    rw [List.map_cons]
    simp only [forL, put, List.set_cons_succ, List.set_cons_zero, hb]
    rw [ih]
    have e1 : (if goB true L s = true then acc ++ [s] else acc) ++ os.filter (goB true L) = acc ++ (s :: os).filter (goB true L) := by
      rw [List.filter_cons]
      split <;> simp
    have e2 : (if goB false L s = true then n + 1 else n) + (os.filter (goB false L)).length = n + ((s :: os).filter (goB false L)).length := by
      rw [List.filter_cons]
      split <;> (try simp) <;> omega
    rw [e1, e2]
theorem perm_good {r : Nat} {L : Lanes} (o : Ok r L) {s : List Nat} (pm : s.Perm L.flatten) : decide (s ∈ gd L) = goB true L s := by
  have hm : s ∈ ords (srt L.flatten) := ords_mem ((srt_perm _).nodup_iff.2 o.nd) (pm.trans (srt_perm _).symm)
  unfold gd
  cases e : goB true L s <;> simp [List.mem_filter, hm, e]
theorem k_turn (ns : List Int) (hns : ns.length ≤ 63) {r : Nat} {L : Lanes} (o : Ok r L) (h6 : L.flatten.length ≤ 6) {i : Nat} (hi : i < 3) {k : Nat} (hk : k < 4) {a2 a4 a6 a7 a11 x8 x9 : Option D} :
    ∃ y8 y9, b_law_2 ns [some (.opq 0 []), some (yd r L), a2, some (.lst ((srt L.flatten).map fun c => D.str [c])), a4, some (.lst ((gd L).map D.str)), a6, a7, x8, x9, some (.int i), a11, some (.int k), none] =
      .nxt [some (.opq 0 []), some (yd r L), a2, some (.lst ((srt L.flatten).map fun c => D.str [c])), a4, some (.lst ((gd L).map D.str)), a6, a7, y8, y9, some (.int i), a11, some (.int k), none] := by
  have hst := srt_strict o.nd
  have hsp := srt_perm L.flatten
  have hsl := hsp.length_eq
  have hs3 : srt ((srt L.flatten).take 3) = (srt L.flatten).take 3 := srt_self (hst.sublist (List.take_sublist _ _))
  have nd3 : ((srt L.flatten).take 3).Nodup := ((srt_perm _).nodup_iff.2 o.nd).sublist (List.take_sublist _ _)
  have eo := s__law_orders (kn := (srt L.flatten).take 3) (by rw [List.length_take]; omega) hs3
  have c1 : D.cut none (some 3) (.lst ((srt L.flatten).map fun c => D.str [c])) = .ok (.lst (((srt L.flatten).take 3).map fun c => D.str [c])) := by
    show R.ok (D.lst (cutL _ _ _)) = _
    rw [show (3 : Int) = ((3 : Nat) : Int) from rfl, cut_to, List.map_take]
  have c2 : D.cut (some 3) none (.lst ((srt L.flatten).map fun c => D.str [c])) = .ok (.lst (((srt L.flatten).drop 3).map fun c => D.str [c])) := by
    show R.ok (D.lst (cutL _ _ _)) = _
    rw [show (3 : Int) = ((3 : Nat) : Int) from rfl, cut_from, List.map_drop]
  have hpos : 1 ≤ (ords ((srt L.flatten).take 3)).length := List.length_pos_of_mem (ords_mem nd3 (List.Perm.refl _))
  obtain ⟨d, hd, ed⟩ := s_pick ns hns (k := 40 * i + 25 + k) (many := (ords ((srt L.flatten).take 3)).length) (by omega) hpos
  have ed' : F__law_pick ns [.opq 0 [], .int (40 * (i : Int) + 25 + (k : Int)), .int (ords ((srt L.flatten).take 3)).length] = .ok (.int d) := by
    have e : ((40 * i + 25 + k : Nat) : Int) = 40 * (i : Int) + 25 + (k : Int) := by omega
    rw [← e]; exact ed
  have hgp : 1 ≤ (gd L).length := by
    obtain ⟨t, ht⟩ := bos_head L.flatten.length o rfl
    unfold gd
    rw [ords_both o, ht]
    simp
  obtain ⟨d2, hd2, ed2⟩ := s_pick ns hns (k := 40 * i + 30) (many := (gd L).length) (by omega) hgp
  have ed2' : F__law_pick ns [.opq 0 [], .int (40 * (i : Int) + 30), .int (gd L).length] = .ok (.int d2) := by
    have e : ((40 * i + 30 : Nat) : Int) = 40 * (i : Int) + 30 := by omega
    rw [← e]; exact ed2
  obtain ⟨s, hs⟩ : ∃ s, (ords ((srt L.flatten).take 3))[d]? = some s := ⟨_, List.getElem?_eq_getElem hd⟩
  obtain ⟨g, hg⟩ : ∃ g, (gd L)[d2]? = some g := ⟨_, List.getElem?_eq_getElem hd2⟩
  have hsm := List.mem_of_getElem? hs
  have hgm := List.mem_of_getElem? hg
  have ps : (s ++ (srt L.flatten).drop 3).Perm L.flatten := by
    have h1 := (ords_perm' nd3 hsm).append_right ((srt L.flatten).drop 3)
    rw [List.take_append_drop] at h1
    exact h1.trans hsp
  have pg : g.Perm L.flatten := by
    unfold gd at hgm
    exact ords_perm o.nd (List.mem_filter.1 hgm).1
  have x1 : D.ix (.lst ((ords ((srt L.flatten).take 3)).map D.str)) (.int d) = .ok (.str s) := ev_ixLn (by rw [List.getElem?_map, hs]; rfl)
  have x2 : D.ix (.lst ((gd L).map D.str)) (.int d2) = .ok (.str g) := ev_ixLn (by rw [List.getElem?_map, hg]; rfl)
  have hj := ev_joinSig ((srt L.flatten).drop 3) (by rw [List.length_drop]; omega)
  have hlen := ps.length_eq
  rw [List.length_append] at hlen
  have ha := ev_addS (a := s) (b := (srt L.flatten).drop 3) (by rw [← List.length_append] at hlen ⊢; omega)
  have f40 : D.mul (.int 40) (.int i) = .ok (.int (40 * i)) := ev_mulR (by decide) (by decide)
  have hty : tyD "str" (D.str []) = true := rfl
  have t5 : ∀ y8 y9 : Option D, t_law_5 ns [some (.opq 0 []), some (yd r L), a2, some (.lst ((srt L.flatten).map fun c => D.str [c])), a4, some (.lst ((gd L).map D.str)), a6, a7, y8, y9, some (.int i), a11, some (.int k), none] = .ok ((k : Int) == 0) := fun y8 y9 => by
    simp only [t_law_5, ev_tst, ev_bin, ev_get, ev_cst, List.getElem?_cons_succ, List.getElem?_cons_zero, R.ok_bind, ev_eqI]
  have t6 : ∀ (y8 : Option D) (w : List Nat), w.Perm L.flatten → t_law_6 ns [some (.opq 0 []), some (yd r L), a2, some (.lst ((srt L.flatten).map fun c => D.str [c])), a4, some (.lst ((gd L).map D.str)), a6, a7, y8, some (.str w), some (.int i), a11, some (.int k), none] = .ok false := fun y8 w pw => by
    simp only [t_law_6, ev_tst, ev_bin, ev_call, ev_consA, ev_nilA, ev_get, List.getElem?_cons_succ, List.getElem?_cons_zero, R.ok_bind, s_is_both o pw, isinStrs, perm_good o pw, ev_neB, bne_self_eq_false]
  unfold b_law_2
  simp only [ev_seq, ev_set, ev_call, ev_consA, ev_nilA, ev_cut, ev_noP, ev_inP, ev_get, ev_cst, ev_bin, ev_app, ev_meth, hty, if_true, List.getElem?_cons_succ, List.getElem?_cons_zero, R.ok_bind, c1, c2, eo, ev_inS, List.set_cons_succ, List.set_cons_zero, f40, ev_addI, ev_lenL, List.length_map, ed', x1, hj, ha, ev_ifS, t5]
  cases e : ((k : Int) == 0) with
  | true =>
    simp only [ev_inT, if_true, ev_lenL, List.length_map, ed2', x2, R.ok_bind, ev_inS, List.set_cons_succ, List.set_cons_zero, t6 _ _ pg, Bool.false_eq_true, if_false]
    exact ⟨_, _, rfl⟩
  | false =>
    simp only [ev_inT, Bool.false_eq_true, if_false, t6 _ _ ps]
    exact ⟨_, _, rfl⟩
end K53

namespace K53
open CL CY
theorem yard_turn (ns : List Int) (hns : ns.length ≤ 63) {i : Nat} (hi : i < 3) {x1 x2 x3 x4 x5 x6 x7 x8 x9 x11 x12 : Option D} :
    ∃ y1 y2 y3 y4 y5 y6 y7 y8 y9 y12, b_law_3 ns [some (.opq 0 []), x1, x2, x3, x4, x5, x6, x7, x8, x9, some (.int i), x11, x12, none] = .nxt [some (.opq 0 []), y1, y2, y3, y4, y5, y6, y7, y8, y9, some (.int i), x11, y12, none] := by
  obtain ⟨r, L, o, h6, ey⟩ := s_park ns hns (40 * i) 6 (by decide) (by omega)
  have ey' : F__law_park ns [.opq 0 [], .int (40 * (i : Int)), .int 6] = .ok (yd r L) := by
    have e : ((40 * i : Nat) : Int) = 40 * (i : Int) := by omega
    rw [← e]; exact ey
  have f40 : D.mul (.int 40) (.int i) = .ok (.int (40 * i)) := ev_mulR (by decide) (by decide)
  have hs := (srt_perm L.flatten).length_eq
  have eo := s__law_orders (kn := srt L.flatten) (by omega) (srt_srt _)
  have hol := ords_n6 (kn := srt L.flatten) (by omega)
  have ej : D.join (.str []) [.tup (L.map D.str)] = .ok (.str L.flatten) := ev_joinT L (by omega)
  have hn4 := o.n4
  have hl := nes_len L
  have q1 : ∀ y4 : Option D, q_law_1 ns [some (.opq 0 []), some (yd r L), some (.tup (L.map D.str)), some (.lst ((srt L.flatten).map fun c => D.str [c])), y4, x5, x6, x7, x8, x9, some (.int i), x11, x12, none] = .ok (.lst (((nes L).map botOf).map fun c => D.str [c])) := fun y4 =>
    lcV_put (f := D.str) (fun c => D.str [c]) (fun l => l != []) botOf (by simp [tupOf]) (by omega) fun l hl => by
      refine ⟨by simp, fun hp => ?_⟩
      have := ev_ixSn (k := 0) (botOf_eq (by simpa using hp))
      simp at this
      simp [this]
  have q2 : ∀ y4 : Option D, q_law_2 ns [some (.opq 0 []), some (yd r L), some (.tup (L.map D.str)), some (.lst ((srt L.flatten).map fun c => D.str [c])), y4, x5, x6, x7, x8, x9, some (.int i), x11, x12, none] = .ok (.lst (((nes L).map topOf).map fun c => D.str [c])) := fun y4 =>
    lcV_put (f := D.str) (fun c => D.str [c]) (fun l => l != []) topOf (by simp [tupOf]) (by omega) fun l hl => by
      refine ⟨by simp, fun hp => ?_⟩
      have := ev_ixSl (topOf_eq (by simpa using hp))
      simp [this]
  have ha : D.add (.lst (((nes L).map botOf).map fun c => D.str [c])) (.lst (((nes L).map topOf).map fun c => D.str [c])) = .ok (.lst (((nes L).map botOf ++ (nes L).map topOf).map fun c => D.str [c])) := by
    rw [ev_addL (by simp only [List.length_map]; omega), ← List.map_append]
  have hel := ends_len o
  have hj := ev_joinSig (endsL L) (by omega)
  have hty : tyD "str" (D.str []) = true := rfl
  have t1 : t_law_1 ns [some (.opq 0 []), some (yd r L), some (.tup (L.map D.str)), some (.lst ((srt L.flatten).map fun c => D.str [c])), some (.lst (((nes L).map botOf ++ (nes L).map topOf).map fun c => D.str [c])), x5, x6, x7, x8, x9, some (.int i), x11, x12, none] = .ok false := by
    have he := ev_ends (f := getV 4) (δ := [some (.opq 0 []), some (yd r L), some (.tup (L.map D.str)), some (.lst ((srt L.flatten).map fun c => D.str [c])), some (.lst (((nes L).map botOf ++ (nes L).map topOf).map fun c => D.str [c])), x5, x6, x7, x8, x9, some (.int i), x11, x12, none]) (l := (nes L).map botOf ++ (nes L).map topOf) (by rw [ev_get]; rfl) (by simp only [List.length_append, List.length_map]; omega)
    have he' : srt (ddN ((nes L).map botOf ++ (nes L).map topOf)) = endsL L := rfl
    rw [he'] at he
    simp only [t_law_1, ev_tst, ev_bin, ev_call, ev_consA, ev_nilA, ev_get, ev_meth, ev_cst, hty, if_true, List.getElem?_cons_succ, List.getElem?_cons_zero, R.ok_bind, s_free_both o, he, hj, ev_neS, bne_self_eq_false]
  have ecb : F_count_both [yd r L] = .ok (.int ((cnt L * 2 ^ exB L : Nat) : Int)) := by
    rw [s_count_both o]; simp
  obtain ⟨y7, y9, el⟩ := orders_loop ns hn4 (a1 := some (yd r L)) (a3 := some (.lst ((srt L.flatten).map fun c => D.str [c]))) (a4 := some (.lst (((nes L).map botOf ++ (nes L).map topOf).map fun c => D.str [c]))) (a8 := x8) (a10 := some (.int i)) (a11 := x11) (a12 := x12) (ords (srt L.flatten)) [] 0 (x7 := x7) (x9 := x9) (by simp; omega)
  rw [List.nil_append, free_len o, Nat.zero_add, List.map_nil] at el
  have hgl : (gd L).length = cnt L * 2 ^ exB L := both_len o
  have hfor : forS (lstOf (callV F__law_orders (consA (getV 3) nilA))) (put 9) (b_law_1 ns) [some (.opq 0 []), some (yd r L), some (.tup (L.map D.str)), some (.lst ((srt L.flatten).map fun c => D.str [c])), some (.lst (((nes L).map botOf ++ (nes L).map topOf).map fun c => D.str [c])), some (.lst []), some (.int 0), x7, x8, x9, some (.int i), x11, x12, none] =
      .nxt [some (.opq 0 []), some (yd r L), some (.tup (L.map D.str)), some (.lst ((srt L.flatten).map fun c => D.str [c])), some (.lst (((nes L).map botOf ++ (nes L).map topOf).map fun c => D.str [c])), some (.lst ((gd L).map D.str)), some (.int (cnt L)), y7, x8, y9, some (.int i), x11, x12, none] := by
    unfold forS lstOf
    simp only [ev_call, ev_consA, ev_get, ev_nilA, List.getElem?_cons_succ, List.getElem?_cons_zero, R.ok_bind, eo, ev_inA]
    exact el
  have t3 : t_law_3 ns [some (.opq 0 []), some (yd r L), some (.tup (L.map D.str)), some (.lst ((srt L.flatten).map fun c => D.str [c])), some (.lst (((nes L).map botOf ++ (nes L).map topOf).map fun c => D.str [c])), some (.lst ((gd L).map D.str)), some (.int (cnt L)), y7, x8, y9, some (.int i), x11, x12, none] = .ok false := by
    simp only [t_law_3, ev_orT, ev_tst, ev_bin, ev_call, ev_consA, ev_nilA, ev_get, ev_app, ev_lenL, List.length_map, List.getElem?_cons_succ, List.getElem?_cons_zero, R.ok_bind, ecb, hgl, s_gained o, s_count_free o, ev_subI, ev_neI, bne_self_eq_false, Bool.false_eq_true, if_false]
  have hx0 : D.ix (.lst ((gd L).map D.str)) (.int 0) = .ok (.str (gr L.flatten.length L)) := by
    obtain ⟨t, ht⟩ := bos_head L.flatten.length o rfl
    unfold gd
    rw [ords_both o, ht, List.map_cons, ev_ixL0]
  have t4 : t_law_4 ns [some (.opq 0 []), some (yd r L), some (.tup (L.map D.str)), some (.lst ((srt L.flatten).map fun c => D.str [c])), some (.lst (((nes L).map botOf ++ (nes L).map topOf).map fun c => D.str [c])), some (.lst ((gd L).map D.str)), some (.int (cnt L)), y7, x8, y9, some (.int i), x11, x12, none] = .ok false := by
    simp only [t_law_4, ev_tst, ev_bin, ev_call, ev_consA, ev_nilA, ev_get, ev_cst, List.getElem?_cons_succ, List.getElem?_cons_zero, R.ok_bind, s_first_both o, hx0, ev_neS, bne_self_eq_false]
  obtain ⟨δ, eloop, z8, z9, z12, rfl⟩ := forL_inv (gi := put 12) (b := b_law_2 ns) (fun δ => ∃ z8 z9 z12, δ = [some (.opq 0 []), some (yd r L), some (.tup (L.map D.str)), some (.lst ((srt L.flatten).map fun c => D.str [c])), some (.lst (((nes L).map botOf ++ (nes L).map topOf).map fun c => D.str [c])), some (.lst ((gd L).map D.str)), some (.int (cnt L)), y7, z8, z9, some (.int i), x11, z12, none]) (ds := [D.int 0, D.int 1, D.int 2, D.int 3])
    (δ := [some (.opq 0 []), some (yd r L), some (.tup (L.map D.str)), some (.lst ((srt L.flatten).map fun c => D.str [c])), some (.lst (((nes L).map botOf ++ (nes L).map topOf).map fun c => D.str [c])), some (.lst ((gd L).map D.str)), some (.int (cnt L)), y7, x8, y9, some (.int i), x11, x12, none])
    (fun d hdm δ hδ => by
      obtain ⟨z8, z9, z12, rfl⟩ := hδ
      have : ∃ k : Nat, k < 4 ∧ d = .int k := by
        simp at hdm
        rcases hdm with rfl | rfl | rfl | rfl
        · exact ⟨0, by decide, rfl⟩
        · exact ⟨1, by decide, rfl⟩
        · exact ⟨2, by decide, rfl⟩
        · exact ⟨3, by decide, rfl⟩
      obtain ⟨k, hk, rfl⟩ := this
      obtain ⟨w8, w9, e⟩ := k_turn ns hns o h6 hi hk (a2 := some (.tup (L.map D.str))) (a4 := some (.lst (((nes L).map botOf ++ (nes L).map topOf).map fun c => D.str [c]))) (a6 := some (.int (cnt L))) (a7 := y7) (a11 := x11) (x8 := z8) (x9 := z9)
      exact ⟨_, _, rfl, e, w8, w9, _, rfl⟩) ⟨x8, y9, x12, rfl⟩
  have hf2 : forS (rng1 (consA (cst (.int 4)) nilA)) (put 12) (b_law_2 ns) [some (.opq 0 []), some (yd r L), some (.tup (L.map D.str)), some (.lst ((srt L.flatten).map fun c => D.str [c])), some (.lst (((nes L).map botOf ++ (nes L).map topOf).map fun c => D.str [c])), some (.lst ((gd L).map D.str)), some (.int (cnt L)), y7, x8, y9, some (.int i), x11, x12, none] = _ := eloop
  refine ⟨some (yd r L), some (.tup (L.map D.str)), some (.lst ((srt L.flatten).map fun c => D.str [c])), some (.lst (((nes L).map botOf ++ (nes L).map topOf).map fun c => D.str [c])), some (.lst ((gd L).map D.str)), some (.int (cnt L)), y7, z8, z9, z12, ?_⟩
  unfold b_law_3
  simp only [ev_seq, ev_set, ev_call, ev_consA, ev_get, ev_nilA, ev_bin, ev_cst, List.getElem?_cons_succ, List.getElem?_cons_zero, R.ok_bind, f40, ey', ev_inS, List.set_cons_succ, List.set_cons_zero, ev_app, ev_meth, hty, if_true, ydix1, ej, sort_join o, q1, q2, ha, ev_ifS, t1, ev_inT, Bool.false_eq_true, if_false, ev_par2, ev_lst, List.length_nil, Nat.zero_le, ev_inA, set2, hfor, t3, t4, hf2]
theorem okL (r : Nat) (L : Lanes) (h : (1 ≤ r && r ≤ 4 && 1 ≤ L.length && L.length ≤ 4 && L.all (fun l => l.length ≤ r) && L.all (fun l => l.all isL) && decide L.flatten.Nodup) = true) : Ok r L := by
  simp only [Bool.and_eq_true, decide_eq_true_eq, List.all_eq_true] at h
  obtain ⟨⟨⟨⟨⟨⟨h1, h2⟩, h3⟩, h4⟩, h5⟩, h6⟩, h7⟩ := h
  exact ⟨h1, h2, h3, h4, fun l hl => by simpa using h5 l hl, fun l hl c hc => h6 l hl c hc, h7⟩
theorem plain (ns : List Int) (hns : ns.length ≤ 63) : F_law ns [.opq 0 []] = .ok (.bl true) := by
  obtain ⟨δ, eloop, x1, x2, x3, x4, x5, x6, x7, x8, x9, x10, x11, x12, rfl⟩ := forL_inv (gi := put 10) (b := b_law_3 ns) (fun δ => ∃ x1 x2 x3 x4 x5 x6 x7 x8 x9 x10 x11 x12, δ = [some (.opq 0 []), x1, x2, x3, x4, x5, x6, x7, x8, x9, x10, x11, x12, none]) (ds := [D.int 0, D.int 1, D.int 2])
    (δ := [some (.opq 0 []), none, none, none, none, none, none, none, none, none, none, none, none, none])
    (fun d hdm δ hδ => by
      obtain ⟨x1, x2, x3, x4, x5, x6, x7, x8, x9, x10, x11, x12, rfl⟩ := hδ
      have : ∃ i : Nat, i < 3 ∧ d = .int i := by
        simp at hdm
        rcases hdm with rfl | rfl | rfl
        · exact ⟨0, by decide, rfl⟩
        · exact ⟨1, by decide, rfl⟩
        · exact ⟨2, by decide, rfl⟩
      obtain ⟨i, hi, rfl⟩ := this
      obtain ⟨y1, y2, y3, y4, y5, y6, y7, y8, y9, y12, e⟩ := yard_turn ns hns hi (x1 := x1) (x2 := x2) (x3 := x3) (x4 := x4) (x5 := x5) (x6 := x6) (x7 := x7) (x8 := x8) (x9 := x9) (x11 := x11) (x12 := x12)
      exact ⟨_, _, rfl, e, y1, y2, y3, y4, y5, y6, y7, y8, y9, _, x11, y12, rfl⟩) ⟨none, none, none, none, none, none, none, none, none, none, none, none, rfl⟩
  have hf : forS (rng1 (consA (cst (.int 3)) nilA)) (put 10) (b_law_3 ns) [some (.opq 0 []), none, none, none, none, none, none, none, none, none, none, none, none, none] = .nxt [some (.opq 0 []), x1, x2, x3, x4, x5, x6, x7, x8, x9, x10, x11, x12, none] := eloop
  have e1 : F_count_both [D.tup [D.int 3, D.tup [D.str [97, 98, 99], D.str [100], D.str []]]] = .ok (.int 16) := by
    have o : Ok 3 [[97, 98, 99], [100], []] := ⟨by decide, by decide, by decide, by decide, by decide, by decide, by decide⟩
    exact (s_count_both o).trans rfl
  have e2 : F_first_both [D.tup [D.int 3, D.tup [D.str [97, 98, 99], D.str [100], D.str []]]] = .ok (.str [97, 98, 99, 100]) := by
    have o : Ok 3 [[97, 98, 99], [100], []] := ⟨by decide, by decide, by decide, by decide, by decide, by decide, by decide⟩
    exact (s_first_both o).trans rfl
  have hf4 : ∀ x11, forL (put 11) (b_law_4 ns) [D.int 1, D.int 2, D.int 3, D.int 4] [some (.opq 0 []), x1, x2, x3, x4, x5, x6, x7, x8, x9, x10, x11, x12, none] = .nxt [some (.opq 0 []), x1, x2, x3, x4, x5, x6, x7, x8, x9, x10, some (.int 4), x12, none] := by
    intro x11
    have c1 : F_count_both [D.tup [D.int 4, D.tup [D.str [97]]]] = .ok (.int 1) := (s_count_both (r := 4) (L := [[97]]) ⟨by decide, by decide, by decide, by decide, by decide, by decide, by decide⟩).trans rfl
    have c2 : F_count_both [D.tup [D.int 4, D.tup [D.str [97, 98]]]] = .ok (.int 2) := (s_count_both (r := 4) (L := [[97, 98]]) ⟨by decide, by decide, by decide, by decide, by decide, by decide, by decide⟩).trans rfl
    have c3 : F_count_both [D.tup [D.int 4, D.tup [D.str [97, 98, 99]]]] = .ok (.int 4) := (s_count_both (r := 4) (L := [[97, 98, 99]]) ⟨by decide, by decide, by decide, by decide, by decide, by decide, by decide⟩).trans rfl
    have c4 : F_count_both [D.tup [D.int 4, D.tup [D.str [97, 98, 99, 100]]]] = .ok (.int 8) := (s_count_both (r := 4) (L := [[97, 98, 99, 100]]) ⟨by decide, by decide, by decide, by decide, by decide, by decide, by decide⟩).trans rfl
    have g : ∀ (k v : Nat) (s : List Nat) (y : Option D), D.cut none (some (k : Int)) (.str [97, 98, 99, 100]) = .ok (.str s) → F_count_both [D.tup [D.int 4, D.tup [D.str s]]] = .ok (.int v) → D.ix (.lst [.int 1, .int 2, .int 4, .int 8]) (.int ((k : Int) - 1)) = .ok (.int v) →
        b_law_4 ns [some (.opq 0 []), x1, x2, x3, x4, x5, x6, x7, x8, x9, x10, some (.int k), x12, none] = .nxt [some (.opq 0 []), x1, x2, x3, x4, x5, x6, x7, x8, x9, x10, some (.int k), x12, none] := by
      intro k v s y h1 h2 h3
      simp [b_law_4, t_law_7, h1, h2, h3]
    have g1 := g 1 1 [97] none rfl c1 rfl
    have g2 := g 2 2 [97, 98] none rfl c2 rfl
    have g3 := g 3 4 [97, 98, 99] none rfl c3 rfl
    have g4 := g 4 8 [97, 98, 99, 100] none rfl c4 rfl
    simp only [forL, put, List.set_cons_succ, List.set_cons_zero]
    simp only [show ((1 : Nat) : Int) = 1 from rfl, show ((2 : Nat) : Int) = 2 from rfl, show ((3 : Nat) : Int) = 3 from rfl, show ((4 : Nat) : Int) = 4 from rfl] at g1 g2 g3 g4
    simp only [g1, g2, g3, g4, List.set_cons_succ, List.set_cons_zero]
  have hf5 : forS (tupOf (tupV (consA (cst (.int 1)) (consA (cst (.int 2)) (consA (cst (.int 3)) (consA (cst (.int 4)) nilA)))))) (put 11) (b_law_4 ns) [some (.opq 0 []), x1, x2, x3, x4, x5, x6, x7, x8, x9, x10, x11, x12, none] = .nxt [some (.opq 0 []), x1, x2, x3, x4, x5, x6, x7, x8, x9, x10, some (.int 4), x12, none] := hf4 x11
  show outD (m_law ns [some (.opq 0 []), none, none, none, none, none, none, none, none, none, none, none, none, none]) = _
  unfold m_law
  rw [ev_seq, hf]
  simp only [ev_seq, hf5]
  simp [e1, e2]
  try rfl
end K53

set_option maxHeartbeats 4000000
/-! what each def computes; printed by gen.py -/
namespace K53
open PySem PySem.Spec PyProof.Rows L2 CL
theorem all_mk {P : Program} {w : World} {K : PySem.W.Frag} {h : Heap} {mg : Str → Option Value} {fa : Addr} (plain : ∀ ns : List Int, ns.length ≤ 63 → F_law ns [.opq 0 []] = .ok (.bl true)) (X : K.In h) (G : h.Ns mainGlobals mg) (hfa : mg "law" = some (.ref fa))
    (d_is_int : DefAt K "is_int" (top 8))
    (d_is_lane : DefAt K "is_lane" (top 9))
    (d_is_yard : DefAt K "is_yard" (top 10))
    (d_check_yard : DefAt K "check_yard" (top 11))
    (d_find_count : DefAt K "find_count" (top 15))
    (d_count_free : DefAt K "count_free" (top 16))
    (d_ends : DefAt K "ends" (top 18))
    (d_free_both : DefAt K "free_both" (top 20))
    (d_find_cars : DefAt K "find_cars" (top 12))
    (d_has_order : DefAt K "has_order" (top 14))
    (d_drop : DefAt K "drop" (top 19))
    (d_is_both : DefAt K "is_both" (top 21))
    (d_find_both : DefAt K "find_both" (top 22))
    (d_count_both : DefAt K "count_both" (top 23))
    (d_first_both : DefAt K "first_both" (top 24))
    (d_gained : DefAt K "gained" (top 25))
    (d__law_pick : DefAt K "_law_pick" (top 27))
    (d__law_park : DefAt K "_law_park" (top 28))
    (d__law_orders : DefAt K "_law_orders" (top 29))
    (d__law_goes : DefAt K "_law_goes" (top 30))
    (d_law : DefAt K "law" (top 31))
    (b_all : PySem.W.nsIn K mainGlobals "all" = some none)
    (b_bool : PySem.W.nsIn K mainGlobals "bool" = some none)
    (b_int : PySem.W.nsIn K mainGlobals "int" = some none)
    (b_isinstance : PySem.W.nsIn K mainGlobals "isinstance" = some none)
    (b_len : PySem.W.nsIn K mainGlobals "len" = some none)
    (b_list : PySem.W.nsIn K mainGlobals "list" = some none)
    (b_max : PySem.W.nsIn K mainGlobals "max" = some none)
    (b_range : PySem.W.nsIn K mainGlobals "range" = some none)
    (b_set : PySem.W.nsIn K mainGlobals "set" = some none)
    (b_sorted : PySem.W.nsIn K mainGlobals "sorted" = some none)
    (b_str : PySem.W.nsIn K mainGlobals "str" = some none)
    (b_sum : PySem.W.nsIn K mainGlobals "sum" = some none)
    (b_tuple : PySem.W.nsIn K mainGlobals "tuple" = some none)
    (g_LETTERS : ∃ t, PySem.W.nsIn K mainGlobals "LETTERS" = some (some (.str "abcdefgh" t)))
    (g_MAX_LANES : ∃ t, PySem.W.nsIn K mainGlobals "MAX_LANES" = some (some (.int 4 t)))
    (g_MAX_ROOM : ∃ t, PySem.W.nsIn K mainGlobals "MAX_ROOM" = some (some (.int 4 t)))
    (x_InvalidYard : ClsAt K "InvalidYard")
    (x_InvalidOrder : ClsAt K "InvalidOrder")
    : ∃ fd : FuncData, (∀ (s : Shared) (u : Value), BindsTo s fd ⟨[u], []⟩ [("script", u)]) ∧ ∀ base : Heap, K.In base → base.Ns mainGlobals mg → FnOk P w K mg base (L2.CX P w) 5 fa fd ["script"] (spLaw K) := by
  obtain ⟨C_InvalidYard, a_InvalidYard, k_InvalidYard, e_InvalidYard, s_InvalidYard, t_InvalidYard⟩ := x_InvalidYard.ex
  obtain ⟨C_InvalidOrder, a_InvalidOrder, k_InvalidOrder, e_InvalidOrder, s_InvalidOrder, t_InvalidOrder⟩ := x_InvalidOrder.ex
  have T : ∀ ns, Tx (mkM w K mg [0, C_InvalidYard, C_InvalidOrder] ns) := fun ns => ⟨PySem.W.mg_none_of X G b_all, PySem.W.mg_none_of X G b_bool, PySem.W.mg_none_of X G b_int, PySem.W.mg_none_of X G b_isinstance, PySem.W.mg_none_of X G b_len, PySem.W.mg_none_of X G b_list, PySem.W.mg_none_of X G b_max, PySem.W.mg_none_of X G b_range, PySem.W.mg_none_of X G b_set, PySem.W.mg_none_of X G b_sorted, PySem.W.mg_none_of X G b_str, PySem.W.mg_none_of X G b_sum, PySem.W.mg_none_of X G b_tuple, (let ⟨t, e⟩ := g_LETTERS; ⟨t, PySem.W.mg_of X G e⟩), (let ⟨t, e⟩ := g_MAX_LANES; ⟨t, PySem.W.mg_of X G e⟩), (let ⟨t, e⟩ := g_MAX_ROOM; ⟨t, PySem.W.mg_of X G e⟩), ⟨PySem.W.mg_of X G a_InvalidOrder, k_InvalidOrder, e_InvalidOrder, s_InvalidOrder, t_InvalidOrder⟩, ⟨PySem.W.mg_of X G a_InvalidYard, k_InvalidYard, e_InvalidYard, s_InvalidYard, t_InvalidYard⟩⟩
  obtain ⟨f_is_int, fd_is_int, a_is_int, N_is_int⟩ := d_is_int.ex
  have B_is_int := N_is_int.binds (ps := ["value", "least", "most"]) fun _ _ _ _ _ _ us hl => match us, hl with | [_, _, _], _ => rfl
  obtain ⟨f_is_lane, fd_is_lane, a_is_lane, N_is_lane⟩ := d_is_lane.ex
  have B_is_lane := N_is_lane.binds (ps := ["value", "room"]) fun _ _ _ _ _ _ us hl => match us, hl with | [_, _], _ => rfl
  obtain ⟨f_is_yard, fd_is_yard, a_is_yard, N_is_yard⟩ := d_is_yard.ex
  have B_is_yard := N_is_yard.binds (ps := ["candidate"]) fun _ _ _ _ _ _ us hl => match us, hl with | [_], _ => rfl
  obtain ⟨f_check_yard, fd_check_yard, a_check_yard, N_check_yard⟩ := d_check_yard.ex
  have B_check_yard := N_check_yard.binds (ps := ["value"]) fun _ _ _ _ _ _ us hl => match us, hl with | [_], _ => rfl
  obtain ⟨f_find_count, fd_find_count, a_find_count, N_find_count⟩ := d_find_count.ex
  have B_find_count := N_find_count.binds (ps := ["yard"]) fun _ _ _ _ _ _ us hl => match us, hl with | [_], _ => rfl
  obtain ⟨f_count_free, fd_count_free, a_count_free, N_count_free⟩ := d_count_free.ex
  have B_count_free := N_count_free.binds (ps := ["yard"]) fun _ _ _ _ _ _ us hl => match us, hl with | [_], _ => rfl
  obtain ⟨f_ends, fd_ends, a_ends, N_ends⟩ := d_ends.ex
  have B_ends := N_ends.binds (ps := ["lanes"]) fun _ _ _ _ _ _ us hl => match us, hl with | [_], _ => rfl
  obtain ⟨f_free_both, fd_free_both, a_free_both, N_free_both⟩ := d_free_both.ex
  have B_free_both := N_free_both.binds (ps := ["yard"]) fun _ _ _ _ _ _ us hl => match us, hl with | [_], _ => rfl
  obtain ⟨f_find_cars, fd_find_cars, a_find_cars, N_find_cars⟩ := d_find_cars.ex
  have B_find_cars := N_find_cars.binds (ps := ["yard"]) fun _ _ _ _ _ _ us hl => match us, hl with | [_], _ => rfl
  obtain ⟨f_has_order, fd_has_order, a_has_order, N_has_order⟩ := d_has_order.ex
  have B_has_order := N_has_order.binds (ps := ["known", "candidate"]) fun _ _ _ _ _ _ us hl => match us, hl with | [_, _], _ => rfl
  obtain ⟨f_drop, fd_drop, a_drop, N_drop⟩ := d_drop.ex
  have B_drop := N_drop.binds (ps := ["lanes", "car"]) fun _ _ _ _ _ _ us hl => match us, hl with | [_, _], _ => rfl
  obtain ⟨f_is_both, fd_is_both, a_is_both, N_is_both⟩ := d_is_both.ex
  have B_is_both := N_is_both.binds (ps := ["yard", "order"]) fun _ _ _ _ _ _ us hl => match us, hl with | [_, _], _ => rfl
  obtain ⟨f_find_both, fd_find_both, a_find_both, N_find_both⟩ := d_find_both.ex
  have B_find_both := N_find_both.binds (ps := ["yard"]) fun _ _ _ _ _ _ us hl => match us, hl with | [_], _ => rfl
  obtain ⟨f_count_both, fd_count_both, a_count_both, N_count_both⟩ := d_count_both.ex
  have B_count_both := N_count_both.binds (ps := ["yard"]) fun _ _ _ _ _ _ us hl => match us, hl with | [_], _ => rfl
  obtain ⟨f_first_both, fd_first_both, a_first_both, N_first_both⟩ := d_first_both.ex
  have B_first_both := N_first_both.binds (ps := ["yard"]) fun _ _ _ _ _ _ us hl => match us, hl with | [_], _ => rfl
  obtain ⟨f_gained, fd_gained, a_gained, N_gained⟩ := d_gained.ex
  have B_gained := N_gained.binds (ps := ["yard"]) fun _ _ _ _ _ _ us hl => match us, hl with | [_], _ => rfl
  obtain ⟨f__law_pick, fd__law_pick, a__law_pick, N__law_pick⟩ := d__law_pick.ex
  have B__law_pick := N__law_pick.binds (ps := ["script", "k", "many"]) fun _ _ _ _ _ _ us hl => match us, hl with | [_, _, _], _ => rfl
  obtain ⟨f__law_park, fd__law_park, a__law_park, N__law_park⟩ := d__law_park.ex
  have B__law_park := N__law_park.binds (ps := ["script", "at", "most"]) fun _ _ _ _ _ _ us hl => match us, hl with | [_, _, _], _ => rfl
  obtain ⟨f__law_orders, fd__law_orders, a__law_orders, N__law_orders⟩ := d__law_orders.ex
  have B__law_orders := N__law_orders.binds (ps := ["signs"]) fun _ _ _ _ _ _ us hl => match us, hl with | [_], _ => rfl
  obtain ⟨f__law_goes, fd__law_goes, a__law_goes, N__law_goes⟩ := d__law_goes.ex
  have B__law_goes := N__law_goes.binds (ps := ["lanes", "order", "is_double"]) fun _ _ _ _ _ _ us hl => match us, hl with | [_, _, _], _ => rfl
  obtain ⟨f_law, fd_law, a_law, N_law⟩ := d_law.ex
  have e := hfa.symm.trans (PySem.W.mg_of X G a_law)
  cases e
  refine ⟨fd_law, fun s u => ?_, fun base _ _ => law_ok (cs := [0, C_InvalidYard, C_InvalidOrder]) (m := F_law) (fun ns => ?_) plain⟩
  · obtain ⟨oc, od, kV, doc, pm, an, cdv, ct, osl, rfl, lk, hcd⟩ := N_law.ex
    exact .of_eq rfl
  · have K_is_int := ok_is_int (P := P) (w := w) (base := base) (T ns) (PySem.W.mg_of X G a_is_int) N_is_int B_is_int 
    have K_is_lane := ok_is_lane (P := P) (w := w) (base := base) (T ns) (PySem.W.mg_of X G a_is_lane) N_is_lane B_is_lane 
    have K_is_yard := ok_is_yard (P := P) (w := w) (base := base) (T ns) (PySem.W.mg_of X G a_is_yard) N_is_yard B_is_yard K_is_int K_is_lane
    have K_check_yard := ok_check_yard (P := P) (w := w) (base := base) (T ns) (PySem.W.mg_of X G a_check_yard) N_check_yard B_check_yard K_is_yard
    have K_find_count := ok_find_count (P := P) (w := w) (base := base) (T ns) (PySem.W.mg_of X G a_find_count) N_find_count B_find_count 
    have K_count_free := ok_count_free (P := P) (w := w) (base := base) (T ns) (PySem.W.mg_of X G a_count_free) N_count_free B_count_free K_check_yard K_find_count
    have K_ends := ok_ends (P := P) (w := w) (base := base) (T ns) (PySem.W.mg_of X G a_ends) N_ends B_ends 
    have R_ends := okR_ends (P := P) (w := w) (base := base) (T ns) (PySem.W.mg_of X G a_ends) N_ends B_ends
    have K_free_both := ok_free_both (P := P) (w := w) (base := base) (T ns) (PySem.W.mg_of X G a_free_both) N_free_both B_free_both K_check_yard K_ends
    have K_find_cars := ok_find_cars (P := P) (w := w) (base := base) (T ns) (PySem.W.mg_of X G a_find_cars) N_find_cars B_find_cars 
    have K_has_order := ok_has_order (P := P) (w := w) (base := base) (T ns) (PySem.W.mg_of X G a_has_order) N_has_order B_has_order 
    have K_drop := ok_drop (P := P) (w := w) (base := base) (T ns) (PySem.W.mg_of X G a_drop) N_drop B_drop 
    have K_is_both := ok_is_both (P := P) (w := w) (base := base) (T ns) (PySem.W.mg_of X G a_is_both) N_is_both B_is_both K_check_yard K_find_cars K_has_order K_ends K_drop
    have K_find_both := ok_find_both (P := P) (w := w) (base := base) (T ns) (PySem.W.mg_of X G a_find_both) N_find_both B_find_both K_find_count
    have K_count_both := ok_count_both (P := P) (w := w) (base := base) (T ns) (PySem.W.mg_of X G a_count_both) N_count_both B_count_both K_check_yard K_find_both
    have K_first_both := ok_first_both (P := P) (w := w) (base := base) (T ns) (PySem.W.mg_of X G a_first_both) N_first_both B_first_both K_check_yard K_ends K_drop R_ends
    have K_gained := ok_gained (P := P) (w := w) (base := base) (T ns) (PySem.W.mg_of X G a_gained) N_gained B_gained K_check_yard K_find_count K_find_both
    have K__law_pick := ok__law_pick (P := P) (w := w) (base := base) (T ns) (PySem.W.mg_of X G a__law_pick) N__law_pick B__law_pick 
    have K__law_park := ok__law_park (P := P) (w := w) (base := base) (T ns) (PySem.W.mg_of X G a__law_park) N__law_park B__law_park K__law_pick
    have K__law_orders := ok__law_orders (P := P) (w := w) (base := base) (T ns) (PySem.W.mg_of X G a__law_orders) N__law_orders B__law_orders 
    have K__law_goes := ok__law_goes (P := P) (w := w) (base := base) (T ns) (PySem.W.mg_of X G a__law_goes) N__law_goes B__law_goes 
    exact ok_law (T ns) N_law K_count_free K_free_both K_is_both K_count_both K_first_both K_gained K__law_pick K__law_park K__law_orders K__law_goes
end K53
open PySem PySem.W PyProof.Rows
set_option maxHeartbeats 0 in
theorem PySem.Challenge.cw_carlanes_k53_whole_doubled_holds : PySem.Challenge.rw_carlanes_k53_whole_doubled.Holds := by
  w_on; o_law; k_head; (case hw => w_witness2)
  k_fill
  refine CL.walk_cl (l := PySem.Challenge.rw_carlanes_k53_whole_doubled) (k := 5) rfl rfl ⟨rfl, by decide, by decide⟩ (fun w h Y => PySem.W.kIn_of Y) ?F
  case F =>
    intro w mg fa h KX G hmg
    refine' K53.all_mk K53.plain KX G hmg ?d_is_int ?d_is_lane ?d_is_yard ?d_check_yard ?d_find_count ?d_count_free ?d_ends ?d_free_both ?d_find_cars ?d_has_order ?d_drop ?d_is_both ?d_find_both ?d_count_both ?d_first_both ?d_gained ?d__law_pick ?d__law_park ?d__law_orders ?d__law_goes ?d_law ?b_all ?b_bool ?b_int ?b_isinstance ?b_len ?b_list ?b_max ?b_range ?b_set ?b_sorted ?b_str ?b_sum ?b_tuple ?g_LETTERS ?g_MAX_LANES ?g_MAX_ROOM ?x_InvalidYard ?x_InvalidOrder
    (case d_is_int => refine' CL.defAt_mk ?a ?l ?c ?k; (case a => k_is); (case l => k_is); (case c => k_is); (case k => k_is))
    (case d_is_lane => refine' CL.defAt_mk ?a ?l ?c ?k; (case a => k_is); (case l => k_is); (case c => k_is); (case k => k_is))
    (case d_is_yard => refine' CL.defAt_mk ?a ?l ?c ?k; (case a => k_is); (case l => k_is); (case c => k_is); (case k => k_is))
    (case d_check_yard => refine' CL.defAt_mk ?a ?l ?c ?k; (case a => k_is); (case l => k_is); (case c => k_is); (case k => k_is))
    (case d_find_count => refine' CL.defAt_mk ?a ?l ?c ?k; (case a => k_is); (case l => k_is); (case c => k_is); (case k => k_is))
    (case d_count_free => refine' CL.defAt_mk ?a ?l ?c ?k; (case a => k_is); (case l => k_is); (case c => k_is); (case k => k_is))
    (case d_ends => refine' CL.defAt_mk ?a ?l ?c ?k; (case a => k_is); (case l => k_is); (case c => k_is); (case k => k_is))
    (case d_free_both => refine' CL.defAt_mk ?a ?l ?c ?k; (case a => k_is); (case l => k_is); (case c => k_is); (case k => k_is))
    (case d_find_cars => refine' CL.defAt_mk ?a ?l ?c ?k; (case a => k_is); (case l => k_is); (case c => k_is); (case k => k_is))
    (case d_has_order => refine' CL.defAt_mk ?a ?l ?c ?k; (case a => k_is); (case l => k_is); (case c => k_is); (case k => k_is))
    (case d_drop => refine' CL.defAt_mk ?a ?l ?c ?k; (case a => k_is); (case l => k_is); (case c => k_is); (case k => k_is))
    (case d_is_both => refine' CL.defAt_mk ?a ?l ?c ?k; (case a => k_is); (case l => k_is); (case c => k_is); (case k => k_is))
    (case d_find_both => refine' CL.defAt_mk ?a ?l ?c ?k; (case a => k_is); (case l => k_is); (case c => k_is); (case k => k_is))
    (case d_count_both => refine' CL.defAt_mk ?a ?l ?c ?k; (case a => k_is); (case l => k_is); (case c => k_is); (case k => k_is))
    (case d_first_both => refine' CL.defAt_mk ?a ?l ?c ?k; (case a => k_is); (case l => k_is); (case c => k_is); (case k => k_is))
    (case d_gained => refine' CL.defAt_mk ?a ?l ?c ?k; (case a => k_is); (case l => k_is); (case c => k_is); (case k => k_is))
    (case d__law_pick => refine' CL.defAt_mk ?a ?l ?c ?k; (case a => k_is); (case l => k_is); (case c => k_is); (case k => k_is))
    (case d__law_park => refine' CL.defAt_mk ?a ?l ?c ?k; (case a => k_is); (case l => k_is); (case c => k_is); (case k => k_is))
    (case d__law_orders => refine' CL.defAt_mk ?a ?l ?c ?k; (case a => k_is); (case l => k_is); (case c => k_is); (case k => k_is))
    (case d__law_goes => refine' CL.defAt_mk ?a ?l ?c ?k; (case a => k_is); (case l => k_is); (case c => k_is); (case k => k_is))
    (case d_law => refine' CL.defAt_mk ?a ?l ?c ?k; (case a => k_is); (case l => k_is); (case c => k_is); (case k => k_is))
    (case b_all => k_is)
    (case b_bool => k_is)
    (case b_int => k_is)
    (case b_isinstance => k_is)
    (case b_len => k_is)
    (case b_list => k_is)
    (case b_max => k_is)
    (case b_range => k_is)
    (case b_set => k_is)
    (case b_sorted => k_is)
    (case b_str => k_is)
    (case b_sum => k_is)
    (case b_tuple => k_is)
    (case g_LETTERS => refine' CL.gl_str "abcdefgh" ?a; (case a => k_is))
    (case g_MAX_LANES => refine' CL.gl_int 4 ?a; (case a => k_is))
    (case g_MAX_ROOM => refine' CL.gl_int 4 ?a; (case a => k_is))
    (case x_InvalidYard => refine' CL.clsAt_mk ?a ?k ?e ?b ?t; (case a => k_is); (case k => k_is); (case e => k_exc); (case b => k_is); (case t => k_is))
    (case x_InvalidOrder => refine' CL.clsAt_mk ?a ?k ?e ?b ?t; (case a => k_is); (case k => k_is); (case e => k_exc); (case b => k_is); (case t => k_is))

