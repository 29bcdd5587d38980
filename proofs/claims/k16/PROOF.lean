import PyProof.Rows.All
import Wide.All
import OpenK.AllK
import Wide.FinOn
import HandS.ForMost
import HandS.ForExc
import HandS.Wide
import HandS.WideBits
import HandS.IsInst
import HandS.Flow
import HandS.Conv
import HandS.RaiseMore
import PyProof.RulesMatch
import KE.KeyNested
import KE.KDictKeyed
import HandS.Iter
import HandS.DictTup
import HandS.TupAny
import HandS.TupMul
import HandS.StrMore
import PyProof.StrBlock2
import HandS.TryOnly
import HandS.Style
import HandS.Defaults
import HandS.Comp
import HandS.Dict
import HandS.ExcOwn
import HandS.More
import HandS.Text
import KE.KBits
import KE.GoesEnum
import PyProof.Rows.Digits
import PyProof.ReprRoads
import HandS.Codes
import PyProof.StrLawsRepr
import KE.KDictLaws
import HandS.DictComp
import HandS.GenList
import KE.KDictDisplayH
import KE.KDictWalk
import HandS.TupLe
import KE.KTupSum
import PySem.Challenge.RW_lowtricks_k16_tails_after_any_number_of
set_option Elab.async false
set_option linter.all false
set_option maxRecDepth 100000
set_option exponentiation.threshold 20000
/-! Lt: a layer of structural data over HandS. -/
namespace Lt
open PySem PySem.Spec PyProof.Rows L2

/-- data: tuples, and lists and dicts that are never changed, by what they hold; a thing that may change by its address -/
inductive D where
  | non | bl (b : Bool) | int (i : Int) | str (x : Str) | tup (ds : List D) | lst (ds : List D) | dct (ks : List Key) (vs : List D) | dcl (ks : List Key) (vs : List D) | dn (w : World) (ks : List D) (vs : List D) | scr (ns : List Int) | ref (a : Addr) | ty (n : String)
/-- a thing that may change -/
inductive MO where
  | lst (ds : List D)
  | ins (C : Addr) (fs : List (Str × D))
  | dct (ks : List Key) (vs : List D)
  | dn (w : World) (ks : List D) (vs : List D)
abbrev Mp := Addr → Option MO
def mup (M : Mp) (a : Addr) (o : MO) : Mp := fun b => if b = a then some o else M b
def mrm (M : Mp) (a : Addr) : Mp := fun b => if b = a then none else M b
theorem mup_same {M : Mp} {a : Addr} {o : MO} : mup M a o a = some o := by unfold mup; rw [if_pos rfl]
theorem mup_ne {M : Mp} {a b : Addr} {o : MO} (h : b ≠ a) : mup M a o b = M b := by unfold mup; rw [if_neg h]
theorem mup_mup {M : Mp} {a : Addr} {o u : MO} : mup (mup M a o) a u = mup M a u := by
  funext b; unfold mup; split <;> rfl
theorem mrm_ne {M : Mp} {a b : Addr} (h : b ≠ a) : mrm M a b = M b := by unfold mrm; rw [if_neg h]
theorem mrm_same {M : Mp} {a : Addr} : mrm M a a = none := by unfold mrm; rw [if_pos rfl]
theorem mrm_mup {M : Mp} {a : Addr} {o : MO} (h : M a = none) : mrm (mup M a o) a = M := by
  funext b; unfold mrm mup; split
  · rename_i e; rw [e, h]
  · rfl

mutual
/-- data as a key of a dict: numbers, texts, None and tuples of these -/
def nk : D → Option NestedKey
  | .non => some .none
  | .bl b => some (.num (if b = true then 1 else 0))
  | .int i => some (.num i)
  | .str x => some (.text x)
  | .tup ds => (nks ds).map .tup
  | _ => none
def nks : List D → Option (List NestedKey)
  | [] => some []
  | d :: r => match nk d, nks r with
    | some k, some l => some (k :: l)
    | _, _ => none
end
/-- an entry of a dict: its key, where the key stands, the value -/
abbrev Ent := NestedKey × Addr × V
/-- a dict whose keys are tuples -/
def NdAt (w : World) (a : Addr) (es : List Ent) : Heap → Prop := fun h => es.length ≤ sizeLine ∧ (a == sysModules) = false ∧ (es.map (·.1)).Nodup ∧ (∀ e ∈ es, e.1.depth ≤ 8) ∧
  ∃ (o : Obj) (ts : Array DictEntry) (ep : Nat) (xs : List (NestedKey × Addr × Value)), h.get? a = some o ∧ o.ExactDict ∧ o.data = .dict ts ep ∧ ts.toList = xs.map (fun x => (⟨x.1.hash w, .ref x.2.1, x.2.2⟩ : DictEntry)) ∧ Paired (fun (e : Ent) (x : NestedKey × Addr × Value) => x.1 = e.1 ∧ x.2.1 = e.2.1 ∧ RelV e.2.2 x.2.2) es xs
/-- what stands in the mini heap; what is hidden (a comprehension's list while it is made) -/
structure Wd where
  m : Mp
  s : Addr → Prop
section
variable (K : PySem.W.Frag) (M : Wd) (H : Hp)
/-- a tuple (a list) that is not changed: tracked, or written -/
def TupAt (a : Addr) (xs : List V) : Prop :=
  (M.m a = none ∧ ¬ M.s a ∧ H a = some (.tup xs)) ∨
    ∃ (o : Obj) (its : Array Value) (n : Nat), K.lookup a = some o ∧ o.cls = .type "tuple" ∧ o.data = .seq its n ∧ its.size ≤ sizeLine ∧ Vals xs its.toList
def LstAt (a : Addr) (xs : List V) : Prop := M.m a = none ∧ ¬ M.s a ∧ H a = some (.lst xs)
/-- the script -/
def ScrAt (a : Addr) (xs : List V) : Prop :=
  (M.m a = none ∧ ¬ M.s a ∧ ∃ o, H a = some (.frz o (.lst xs))) ∨
    ∃ (o : Obj) (its : Array Value) (n : Nat), K.lookup a = some o ∧ o.cls = .type "list" ∧ o.dict = none ∧ o.data = .seq its n ∧ its.size ≤ sizeLine ∧ Vals xs its.toList
mutual
def Rep : V → D → Prop
  | v, .non => v = .non
  | v, .bl b => v = .bl b
  | v, .int i => v = .int i
  | v, .str x => v = .str x
  | v, .tup ds => ∃ a xs, v = .ref a ∧ TupAt K M H a xs ∧ Reps xs ds
  | v, .lst ds => ∃ a xs, v = .ref a ∧ LstAt M H a xs ∧ Reps xs ds
  | v, .dct ks ds => ∃ a xs, v = .ref a ∧ (M.m a = none ∧ ¬ M.s a ∧ H a = some (.dK (ks.zip xs))) ∧ xs.length = ks.length ∧ Reps xs ds
  | v, .dcl ks ds => ∃ a xs, v = .ref a ∧ (M.m a = none ∧ ¬ M.s a ∧ ∃ o, H a = some (.frz o (.dK (ks.zip xs)))) ∧ xs.length = ks.length ∧ Reps xs ds
  | v, .dn w ks ds => ∃ (a : Addr) (es : List Ent), v = .ref a ∧ (M.m a = none ∧ ¬ M.s a ∧ ∃ o, H a = some (.frz o (.ext (NdAt w a es)))) ∧ ks.map nk = es.map (fun e => some e.1) ∧ Reps (es.map fun e => V.ref e.2.1) ks ∧ Reps (es.map (·.2.2)) ds
  | v, .scr ns => ∃ a, v = .ref a ∧ ScrAt K M H a (ns.map V.int)
  | v, .ref a => v = .ref a
  | v, .ty n => v = .ty n
def Reps : List V → List D → Prop
  | [], [] => True
  | v :: vs, d :: ds => Rep v d ∧ Reps vs ds
  | _, _ => False
end
def RepF : List (Str × V) → List (Str × D) → Prop
  | [], [] => True
  | v :: vs, d :: ds => v.1 = d.1 ∧ Rep K M H v.2 d.2 ∧ RepF vs ds
  | _, _ => False
def RepM (a : Addr) : MO → Prop
  | .lst ds => ∃ xs, H a = some (.lst xs) ∧ Reps K M H xs ds
  | .ins C fs => ∃ dx vs, H a = some (.ins C dx vs) ∧ RepF K M H vs fs
  | .dct ks ds => ∃ xs, H a = some (.dK (ks.zip xs)) ∧ xs.length = ks.length ∧ Reps K M H xs ds
  | .dn w ks ds => ∃ es : List Ent, H a = some (.ext (NdAt w a es)) ∧ ks.map nk = es.map (fun e => some e.1) ∧ Reps K M H (es.map fun e => V.ref e.2.1) ks ∧ Reps K M H (es.map (·.2.2)) ds
structure RelM : Prop where
  o : ∀ a o, M.m a = some o → RepM K M H a o
  h : ∀ a, M.s a → M.m a = none ∧ ∃ o, H a = some o
def RepO (x : Option V) (d : Option D) : Prop := ∀ e, d = some e → ∃ v, x = some v ∧ Rep K M H v e
def RelS : List (Option V) → List (Option D) → Prop
  | [], [] => True
  | v :: vs, d :: ds => RepO K M H v d ∧ RelS vs ds
  | _, _ => False
end
/-- what is tracked and not changeable stays so -/
def Le (M : Wd) (H : Hp) (M' : Wd) (H' : Hp) : Prop := (∀ a o, M.m a = none → H a = some o → M'.m a = none ∧ H' a = some o) ∧ M'.s = M.s
/-- .. what is seen of it -/
def Lw (M : Wd) (H : Hp) (M' : Wd) (H' : Hp) : Prop := ∀ a o, M.m a = none → ¬ M.s a → H a = some o → M'.m a = none ∧ ¬ M'.s a ∧ H' a = some o
theorem Le.refl {M : Wd} {H : Hp} : Le M H M H := ⟨fun _ _ h1 h2 => ⟨h1, h2⟩, rfl⟩
theorem Le.trans {M M1 M2 : Wd} {H H1 H2 : Hp} (a : Le M H M1 H1) (b : Le M1 H1 M2 H2) : Le M H M2 H2 := ⟨fun x o h1 h2 =>
  let ⟨e1, e2⟩ := a.1 x o h1 h2
  b.1 x o e1 e2, b.2.trans a.2⟩
theorem Le.w {M M' : Wd} {H H' : Hp} (l : Le M H M' H') : Lw M H M' H' := fun a o h1 h2 h3 => ⟨(l.1 a o h1 h3).1, by rw [l.2]; exact h2, (l.1 a o h1 h3).2⟩
section
variable {K : PySem.W.Frag} {M M' M1 M2 : Wd} {H H' H1 H2 : Hp} {v : V} {d : D} {vs xs : List V} {ds : List D} {a p : Addr}
theorem TupAt.mono (l : Lw M H M' H') (h : TupAt K M H a xs) : TupAt K M' H' a xs := by
  rcases h with ⟨h1, h2, h3⟩ | h
  · exact .inl (l _ _ h1 h2 h3)
  · exact .inr h
theorem LstAt.mono (l : Lw M H M' H') (h : LstAt M H a xs) : LstAt M' H' a xs := l _ _ h.1 h.2.1 h.2.2
theorem ScrAt.mono (l : Lw M H M' H') (h : ScrAt K M H a xs) : ScrAt K M' H' a xs := by
  rcases h with ⟨h1, hs, o, h2⟩ | h
  · obtain ⟨e1, e2, e3⟩ := l _ _ h1 hs h2
    exact .inl ⟨e1, e2, o, e3⟩
  · exact .inr h
theorem TupAt.sq (h : TupAt K M H a xs) : SqT K H a xs := by
  rcases h with ⟨_, _, h⟩ | h
  · exact .inl (.inl h)
  · exact .inr h
theorem LstAt.sq (h : LstAt M H a xs) : SqL K H a xs := .inl (.inl h.2.2)
theorem ScrAt.sq (h : ScrAt K M H a xs) : SqL K H a xs := by
  rcases h with ⟨_, _, o, h⟩ | h
  · exact .inl (.inr ⟨o, h⟩)
  · exact .inr h
mutual
theorem Rep.mono (l : Lw M H M' H') : ∀ {v : V} {d : D}, Rep K M H v d → Rep K M' H' v d
  | v, .non, h => by unfold Rep at h ⊢; exact h
  | v, .bl b, h => by unfold Rep at h ⊢; exact h
  | v, .int i, h => by unfold Rep at h ⊢; exact h
  | v, .str x, h => by unfold Rep at h ⊢; exact h
  | v, .tup ds, h => by
    unfold Rep at h ⊢
    obtain ⟨a, xs, e, p, r⟩ := h
    exact ⟨a, xs, e, p.mono l, Reps.mono l r⟩
  | v, .lst ds, h => by
    unfold Rep at h ⊢
    obtain ⟨a, xs, e, p, r⟩ := h
    exact ⟨a, xs, e, p.mono l, Reps.mono l r⟩
  | v, .dct ks ds, h => by
    unfold Rep at h ⊢
    obtain ⟨a, xs, e, ⟨p1, p2, p3⟩, hl, r⟩ := h
    exact ⟨a, xs, e, l _ _ p1 p2 p3, hl, Reps.mono l r⟩
  | v, .dcl ks ds, h => by
    unfold Rep at h ⊢
    obtain ⟨a, xs, e, ⟨p1, p2, o, p3⟩, hl, r⟩ := h
    obtain ⟨q1, q2, q3⟩ := l _ _ p1 p2 p3
    exact ⟨a, xs, e, ⟨q1, q2, o, q3⟩, hl, Reps.mono l r⟩
  | v, .dn w ks ds, h => by
    unfold Rep at h ⊢
    obtain ⟨a, es, e, ⟨p1, p2, o, p3⟩, hl, r1, r2⟩ := h
    obtain ⟨q1, q2, q3⟩ := l _ _ p1 p2 p3
    exact ⟨a, es, e, ⟨q1, q2, o, q3⟩, hl, Reps.mono l r1, Reps.mono l r2⟩
  | v, .scr ns, h => by
    unfold Rep at h ⊢
    obtain ⟨a, e, p⟩ := h
    exact ⟨a, e, p.mono l⟩
  | v, .ref a, h => by unfold Rep at h ⊢; exact h
  | v, .ty n, h => by unfold Rep at h ⊢; exact h
theorem Reps.mono (l : Lw M H M' H') : ∀ {vs : List V} {ds : List D}, Reps K M H vs ds → Reps K M' H' vs ds
  | [], [], _ => by unfold Reps; trivial
  | [], _ :: _, h => by unfold Reps at h; exact h.elim
  | _ :: _, [], h => by unfold Reps at h; exact h.elim
  | v :: vs, d :: ds, h => by
    unfold Reps at h ⊢
    exact ⟨Rep.mono l h.1, Reps.mono l h.2⟩
end
theorem RepF.mono (l : Lw M H M' H') : ∀ {vs : List (Str × V)} {ds : List (Str × D)}, RepF K M H vs ds → RepF K M' H' vs ds
  | [], [], _ => trivial
  | [], _ :: _, h => h.elim
  | _ :: _, [], h => h.elim
  | v :: vs, d :: ds, h => ⟨h.1, h.2.1.mono l, RepF.mono l h.2.2⟩
theorem RelS.mono (l : Lw M H M' H') : ∀ {vs : List (Option V)} {ds : List (Option D)}, RelS K M H vs ds → RelS K M' H' vs ds
  | [], [], _ => trivial
  | [], _ :: _, h => h.elim
  | _ :: _, [], h => h.elim
  | v :: vs, d :: ds, h => ⟨fun e he => let ⟨v, e1, r⟩ := h.1 e he; ⟨v, e1, r.mono l⟩, RelS.mono l h.2⟩
theorem RelS.len : ∀ {vs : List (Option V)} {ds : List (Option D)}, RelS K M H vs ds → vs.length = ds.length
  | [], [], _ => rfl
  | [], _ :: _, h => h.elim
  | _ :: _, [], h => h.elim
  | _ :: _, _ :: _, h => congrArg (· + 1) (RelS.len h.2)
theorem RelS.get : ∀ {vs : List (Option V)} {ds : List (Option D)} {i : Nat} {d : D}, RelS K M H vs ds → ds[i]? = some (some d) → ∃ v, vs[i]? = some (some v) ∧ Rep K M H v d
  | [], [], _, _, _, e => by simp at e
  | [], _ :: _, _, _, h, _ => h.elim
  | _ :: _, [], _, _, h, _ => h.elim
  | v :: vs, d :: ds, 0, x, h, e => by
    have e' : d = some x := by simpa using e
    obtain ⟨v', h1, h2⟩ := h.1 x e'
    exact ⟨v', by rw [h1]; rfl, h2⟩
  | v :: vs, d :: ds, i + 1, x, h, e => by
    obtain ⟨v', h1, h2⟩ := RelS.get (i := i) (d := x) h.2 (by simpa using e)
    exact ⟨v', by simpa using h1, h2⟩
theorem RelS.set : ∀ {vs : List (Option V)} {ds : List (Option D)} {v : V} {d : D} (i : Nat), RelS K M H vs ds → Rep K M H v d → RelS K M H (vs.set i (some v)) (ds.set i (some d))
  | [], [], _, _, _, _, _ => trivial
  | [], _ :: _, _, _, _, h, _ => h.elim
  | _ :: _, [], _, _, _, h, _ => h.elim
  | _ :: _, _ :: _, v, d, 0, h, r => ⟨fun e he => ⟨v, rfl, by cases he; exact r⟩, h.2⟩
  | _ :: _, _ :: _, v, d, i + 1, h, r => ⟨h.1, RelS.set i h.2 r⟩
/-- forgetting slots -/
theorem RelS.weak : ∀ {vs : List (Option V)} {ds ds' : List (Option D)}, RelS K M H vs ds → ds'.length = ds.length → (∀ (i : Nat) (d : D), ds'[i]? = some (some d) → ds[i]? = some (some d)) → RelS K M H vs ds'
  | [], [], [], _, _, _ => trivial
  | [], [], _ :: _, _, e, _ => by simp at e
  | [], _ :: _, _, h, _, _ => h.elim
  | _ :: _, [], _, h, _, _ => h.elim
  | _ :: _, _ :: _, [], _, e, _ => by simp at e
  | v :: vs, d :: ds, d' :: ds', h, e, w => by
    refine ⟨fun x hx => h.1 x ?_, RelS.weak h.2 (by simpa using e) fun i y hy => ?_⟩
    · have := w 0 x (by rw [hx]; rfl)
      simpa using this
    · have := w (i + 1) y (by simpa using hy)
      simpa using this
theorem RelS.repl (n : Nat) : RelS K M H (List.replicate n none) (List.replicate n none) := by
  induction n with
  | zero => trivial
  | succ n ih =>
    exact ⟨fun e he => (nomatch he), ih⟩
theorem RelS.append : ∀ {vs : List (Option V)} {ds : List (Option D)} {vs' : List (Option V)} {ds' : List (Option D)}, RelS K M H vs ds → RelS K M H vs' ds' → RelS K M H (vs ++ vs') (ds ++ ds')
  | [], [], _, _, _, h => h
  | [], _ :: _, _, _, h, _ => h.elim
  | _ :: _, [], _, _, h, _ => h.elim
  | _ :: _, _ :: _, _, _, h, h' => ⟨h.1, RelS.append h.2 h'⟩
theorem Reps.slots : ∀ {vs : List V} {ds : List D}, Reps K M H vs ds → RelS K M H (vs.map some) (ds.map some)
  | [], [], _ => trivial
  | [], _ :: _, h => by unfold Reps at h; exact h.elim
  | _ :: _, [], h => by unfold Reps at h; exact h.elim
  | v :: vs, d :: ds, h => by
    unfold Reps at h
    exact ⟨fun e he => ⟨v, rfl, by cases he; exact h.1⟩, Reps.slots h.2⟩
theorem Reps.len : ∀ {vs : List V} {ds : List D}, Reps K M H vs ds → vs.length = ds.length
  | [], [], _ => rfl
  | [], _ :: _, h => by unfold Reps at h; exact h.elim
  | _ :: _, [], h => by unfold Reps at h; exact h.elim
  | v :: vs, d :: ds, h => by
    unfold Reps at h
    exact congrArg (· + 1) (Reps.len h.2)
theorem Reps.cons (h : Rep K M H v d) (t : Reps K M H vs ds) : Reps K M H (v :: vs) (d :: ds) := by
  unfold Reps; exact ⟨h, t⟩
theorem Reps.nil : Reps K M H [] [] := by unfold Reps; trivial
theorem Reps.append : ∀ {vs : List V} {ds : List D} {vs' : List V} {ds' : List D}, Reps K M H vs ds → Reps K M H vs' ds' → Reps K M H (vs ++ vs') (ds ++ ds')
  | [], [], _, _, _, h => h
  | [], _ :: _, _, _, h, _ => by unfold Reps at h; exact h.elim
  | _ :: _, [], _, _, h, _ => by unfold Reps at h; exact h.elim
  | _ :: _, _ :: _, _, _, h, h' => by
    unfold Reps at h
    exact .cons h.1 (Reps.append h.2 h')
theorem Reps.get : ∀ {vs : List V} {ds : List D} {i : Nat} {d : D}, Reps K M H vs ds → ds[i]? = some d → ∃ v, vs[i]? = some v ∧ Rep K M H v d
  | [], [], _, _, _, e => by simp at e
  | [], _ :: _, _, _, h, _ => by unfold Reps at h; exact h.elim
  | _ :: _, [], _, _, h, _ => by unfold Reps at h; exact h.elim
  | v :: vs, d :: ds, 0, x, h, e => by
    unfold Reps at h
    have e' : d = x := by simpa using e
    exact ⟨v, rfl, e' ▸ h.1⟩
  | v :: vs, d :: ds, i + 1, x, h, e => by
    unfold Reps at h
    obtain ⟨v', h1, h2⟩ := Reps.get (i := i) (d := x) h.2 (by simpa using e)
    exact ⟨v', by simpa using h1, h2⟩
theorem Reps.getV : ∀ {vs : List V} {ds : List D} {i : Nat} {v : V}, Reps K M H vs ds → vs[i]? = some v → ∃ d, ds[i]? = some d ∧ Rep K M H v d
  | [], [], _, _, _, e => by simp at e
  | [], _ :: _, _, _, h, _ => by unfold Reps at h; exact h.elim
  | _ :: _, [], _, _, h, _ => by unfold Reps at h; exact h.elim
  | v :: vs, d :: ds, 0, x, h, e => by
    unfold Reps at h
    have e' : v = x := by simpa using e
    exact ⟨d, rfl, e' ▸ h.1⟩
  | v :: vs, d :: ds, i + 1, x, h, e => by
    unfold Reps at h
    obtain ⟨v', h1, h2⟩ := Reps.getV (i := i) (v := x) h.2 (by simpa using e)
    exact ⟨v', by simpa using h1, h2⟩
theorem Reps.set : ∀ {vs : List V} {ds : List D} {v : V} {d : D} (i : Nat), Reps K M H vs ds → Rep K M H v d → Reps K M H (vs.set i v) (ds.set i d)
  | [], [], _, _, _, h, _ => h
  | [], _ :: _, _, _, _, h, _ => by unfold Reps at h; exact h.elim
  | _ :: _, [], _, _, _, h, _ => by unfold Reps at h; exact h.elim
  | _ :: _, _ :: _, v, d, 0, h, r => by unfold Reps at h; exact .cons r h.2
  | _ :: _, _ :: _, v, d, i + 1, h, r => by unfold Reps at h; exact .cons h.1 (Reps.set i h.2 r)
theorem Reps.take : ∀ {vs : List V} {ds : List D} (n : Nat), Reps K M H vs ds → Reps K M H (vs.take n) (ds.take n)
  | _, _, 0, _ => by rw [List.take_zero, List.take_zero]; exact .nil
  | [], [], _ + 1, h => by rw [List.take_nil, List.take_nil]; exact h
  | [], _ :: _, _, h => by unfold Reps at h; exact h.elim
  | _ :: _, [], _, h => by unfold Reps at h; exact h.elim
  | _ :: _, _ :: _, n + 1, h => by unfold Reps at h; exact .cons h.1 (Reps.take n h.2)
theorem Reps.drop : ∀ {vs : List V} {ds : List D} (n : Nat), Reps K M H vs ds → Reps K M H (vs.drop n) (ds.drop n)
  | _, _, 0, h => h
  | [], [], _ + 1, h => by rw [List.drop_nil, List.drop_nil]; exact h
  | [], _ :: _, _, h => by unfold Reps at h; exact h.elim
  | _ :: _, [], _, h => by unfold Reps at h; exact h.elim
  | _ :: _, _ :: _, n + 1, h => by unfold Reps at h; exact Reps.drop n h.2
/-- a list of whole numbers (of texts, of truth values) -/
theorem Reps.map {α : Type} (f : α → V) (g : α → D) (h : ∀ x, Rep K M H (f x) (g x)) : ∀ l : List α, Reps K M H (l.map f) (l.map g)
  | [] => .nil
  | x :: r => .cons (h x) (Reps.map f g h r)
theorem Reps.ints : ∀ {vs : List V} {ns : List Int}, Reps K M H vs (ns.map D.int) → vs = ns.map V.int
  | [], [], _ => rfl
  | [], _ :: _, h => by
    rw [List.map_cons] at h
    unfold Reps at h; exact h.elim
  | _ :: _, [], h => by
    rw [List.map_nil] at h
    unfold Reps at h; exact h.elim
  | v :: vs, n :: ns, h => by
    rw [List.map_cons] at h
    unfold Reps at h
    have e : v = V.int n := by have := h.1; unfold Rep at this; exact this
    rw [List.map_cons, e, Reps.ints h.2]
theorem Rep.int_iff {i : Int} : Rep K M H v (.int i) ↔ v = .int i := by unfold Rep; exact Iff.rfl
theorem Rep.bl_iff {b : Bool} : Rep K M H v (.bl b) ↔ v = .bl b := by unfold Rep; exact Iff.rfl
theorem Rep.str_iff {x : Str} : Rep K M H v (.str x) ↔ v = .str x := by unfold Rep; exact Iff.rfl
theorem Rep.non_iff : Rep K M H v .non ↔ v = .non := by unfold Rep; exact Iff.rfl
theorem Rep.ref_iff : Rep K M H v (.ref a) ↔ v = .ref a := by unfold Rep; exact Iff.rfl
theorem Rep.ty_iff {n : String} : Rep K M H v (.ty n) ↔ v = .ty n := by unfold Rep; exact Iff.rfl
theorem Rep.tup_iff : Rep K M H v (.tup ds) ↔ ∃ a xs, v = .ref a ∧ TupAt K M H a xs ∧ Reps K M H xs ds := by
  conv => lhs; unfold Rep
theorem Rep.scr_iff {ns : List Int} : Rep K M H v (.scr ns) ↔ ∃ a, v = .ref a ∧ ScrAt K M H a (ns.map V.int) := by unfold Rep; exact Iff.rfl
theorem Rep.dct_iff {ks : List Key} : Rep K M H v (.dct ks ds) ↔ ∃ a xs, v = .ref a ∧ (M.m a = none ∧ ¬ M.s a ∧ H a = some (.dK (ks.zip xs))) ∧ xs.length = ks.length ∧ Reps K M H xs ds := by
  conv => lhs; unfold Rep
theorem Rep.dcl_iff {ks : List Key} : Rep K M H v (.dcl ks ds) ↔ ∃ a xs, v = .ref a ∧ (M.m a = none ∧ ¬ M.s a ∧ ∃ o, H a = some (.frz o (.dK (ks.zip xs)))) ∧ xs.length = ks.length ∧ Reps K M H xs ds := by
  conv => lhs; unfold Rep
theorem Rep.dn_iff {w : World} {ks : List D} : Rep K M H v (.dn w ks ds) ↔ ∃ (a : Addr) (es : List Ent), v = .ref a ∧ (M.m a = none ∧ ¬ M.s a ∧ ∃ o, H a = some (.frz o (.ext (NdAt w a es)))) ∧ ks.map nk = es.map (fun e => some e.1) ∧ Reps K M H (es.map fun e => V.ref e.2.1) ks ∧ Reps K M H (es.map (·.2.2)) ds := by
  conv => lhs; unfold Rep
theorem Rep.lst_iff : Rep K M H v (.lst ds) ↔ ∃ a xs, v = .ref a ∧ LstAt M H a xs ∧ Reps K M H xs ds := by
  conv => lhs; unfold Rep
/-- a new object, not to be changed -/
theorem Le.new {o : HO} (h : H p = none) : Le M H M (upd H p o) := ⟨fun a u h1 h2 => ⟨h1, by rw [upd_ne (ne_of_none h2 h)]; exact h2⟩, rfl⟩
theorem RelM.free (r : RelM K M H) (h : H p = none) : M.m p = none := by
  cases e : M.m p with
  | none => rfl
  | some o =>
    have q := r.o p o e
    cases o with
    | lst ds => obtain ⟨xs, q, _⟩ := q; rw [h] at q; cases q
    | ins C fs => obtain ⟨_, _, q, _⟩ := q; rw [h] at q; cases q
    | dct ks ds => obtain ⟨_, q, _⟩ := q; rw [h] at q; cases q
    | dn w ks ds => obtain ⟨_, q, _⟩ := q; rw [h] at q; cases q
theorem RepM.mono {o : MO} (l : Lw M H M' H') (hH : H' a = H a) (h : RepM K M H a o) : RepM K M' H' a o := by
  cases o with
  | lst ds => obtain ⟨xs, q, r⟩ := h; exact ⟨xs, hH.trans q, r.mono l⟩
  | ins C fs => obtain ⟨dx, vs, q, r⟩ := h; exact ⟨dx, vs, hH.trans q, r.mono l⟩
  | dct ks ds => obtain ⟨xs, q, e, r⟩ := h; exact ⟨xs, hH.trans q, e, r.mono l⟩
  | dn w ks ds => obtain ⟨es, q, e, r1, r2⟩ := h; exact ⟨es, hH.trans q, e, r1.mono l, r2.mono l⟩
theorem RelM.vis (r : RelM K M H) (h : H p = none) : ¬ M.s p := fun z => by
  obtain ⟨_, o, e⟩ := r.h p z
  rw [h] at e; cases e
/-- a new object laid, nothing else touched -/
theorem RelM.new {o : HO} (r : RelM K M H) (h : H p = none) : RelM K M (upd H p o) := by
  refine ⟨fun a mo e => ?_, fun a z => ?_⟩
  · have ne : a ≠ p := fun z => by rw [z] at e; rw [r.free h] at e; cases e
    exact (r.o a mo e).mono (Le.new h).w (upd_ne ne)
  · obtain ⟨h1, o', e⟩ := r.h a z
    exact ⟨h1, o', by rw [upd_ne (ne_of_none e h)]; exact e⟩
/-- .. that may change -/
theorem Le.newM {o : HO} {mo : MO} (r : RelM K M H) (h : H p = none) : Le M H ⟨mup M.m p mo, M.s⟩ (upd H p o) := ⟨fun a u h1 h2 => by
  have ne : a ≠ p := ne_of_none h2 h
  exact ⟨by show mup M.m p mo a = none; rw [mup_ne ne]; exact h1, by rw [upd_ne ne]; exact h2⟩, rfl⟩
theorem RelM.newM {o : HO} {mo : MO} (r : RelM K M H) (h : H p = none) (q : RepM K ⟨mup M.m p mo, M.s⟩ (upd H p o) p mo) : RelM K ⟨mup M.m p mo, M.s⟩ (upd H p o) := by
  refine ⟨fun a m e => ?_, fun a z => ?_⟩
  · by_cases ne : a = p
    · subst ne
      have e : mup M.m a mo a = some m := e
      rw [mup_same] at e; cases e
      exact q
    · have e : mup M.m p mo a = some m := e
      rw [mup_ne ne] at e
      exact (r.o a m e).mono (Le.newM r h).w (upd_ne ne)
  · obtain ⟨h1, o', e⟩ := r.h a z
    have ne := ne_of_none e h
    exact ⟨by show mup M.m p mo a = none; rw [mup_ne ne]; exact h1, o', by rw [upd_ne ne]; exact e⟩
/-- an object of ours is written -/
theorem Le.put {o : HO} {mo m0 : MO} (h : M.m p = some m0) : Le M H ⟨mup M.m p mo, M.s⟩ (upd H p o) := ⟨fun a u h1 h2 => by
  have ne : a ≠ p := fun z => by rw [z, h] at h1; cases h1
  exact ⟨by show mup M.m p mo a = none; rw [mup_ne ne]; exact h1, by rw [upd_ne ne]; exact h2⟩, rfl⟩
theorem RelM.put {o : HO} {mo m0 : MO} (r : RelM K M H) (h : M.m p = some m0) (q : RepM K ⟨mup M.m p mo, M.s⟩ (upd H p o) p mo) : RelM K ⟨mup M.m p mo, M.s⟩ (upd H p o) := by
  refine ⟨fun a m e => ?_, fun a z => ?_⟩
  · by_cases ne : a = p
    · subst ne
      have e : mup M.m a mo a = some m := e
      rw [mup_same] at e; cases e
      exact q
    · have e : mup M.m p mo a = some m := e
      rw [mup_ne ne] at e
      exact (r.o a m e).mono (Le.put h).w (upd_ne ne)
  · obtain ⟨h1, o', e⟩ := r.h a z
    have ne : a ≠ p := fun z => by rw [z, h] at h1; cases h1
    exact ⟨by show mup M.m p mo a = none; rw [mup_ne ne]; exact h1, o', by rw [upd_ne ne]; exact e⟩
/-- a new tuple, a new list -/
theorem Rep.tupN (r : RelM K M H) (h : H p = none) (q : Reps K M H vs ds) : Rep K M (upd H p (.tup vs)) (.ref p) (.tup ds) :=
  Rep.tup_iff.mpr ⟨p, vs, rfl, .inl ⟨r.free h, r.vis h, upd_same⟩, q.mono (Le.new h).w⟩
theorem Rep.lstN (r : RelM K M H) (h : H p = none) (q : Reps K M H vs ds) : Rep K M (upd H p (.lst vs)) (.ref p) (.lst ds) :=
  Rep.lst_iff.mpr ⟨p, vs, rfl, ⟨r.free h, r.vis h, upd_same⟩, q.mono (Le.new h).w⟩
end
end Lt
namespace Lt
open PySem PySem.Spec PyProof.Rows L2

theorem uT {A B : Prop} (h : if true = true then A else B) : A := by rwa [if_pos rfl] at h
theorem uF {A B : Prop} (h : if false = true then A else B) : B := by rwa [if_neg Bool.false_ne_true] at h
abbrev DS := List (Option D)
abbrev DK := D → Mp → Prop
abbrev DE := DS → Mp → DK → Prop
abbrev DT := DS → Mp → (Bool → Mp → Prop) → Prop
abbrev DA := DS → Mp → (List D → Mp → Prop) → Prop
abbrev DG := D → DS → Mp → (DS → Mp → Prop) → Prop
structure DEnds where
  nx : DS → Mp → Prop
  rt : DK
  bk : DS → Mp → Prop := fun _ _ => False
  ct : DS → Mp → Prop := fun _ _ => False
abbrev DSt := DEnds → DS → Mp → Prop
/-- what is wanted of an exception: its class, what its field holds -/
abbrev XD := Value → Option D → Mp → Prop
abbrev XD0 : XD := fun _ _ _ => False
section
variable (K : PySem.W.Frag) (M0 : Wd) (H0 : Hp)
def lE (t : DE) : TE := fun σ H Q => ∃ ds M Q', Le M0 H0 M H ∧ RelM K M H ∧ RelS K M H σ ds ∧ t ds M.m Q' ∧ ∀ d M' v H', Q' d M'.m → Le M H M' H' → RelM K M' H' → Rep K M' H' v d → Q v H'
def lT (t : DT) : TT := fun σ H Q => ∃ ds M Q', Le M0 H0 M H ∧ RelM K M H ∧ RelS K M H σ ds ∧ t ds M.m Q' ∧ ∀ b M' H', Q' b M'.m → Le M H M' H' → RelM K M' H' → Q b H'
def lA (t : DA) : TA := fun σ H Q => ∃ ds M Q', Le M0 H0 M H ∧ RelM K M H ∧ RelS K M H σ ds ∧ t ds M.m Q' ∧ ∀ xs M' vs H', Q' xs M'.m → Le M H M' H' → RelM K M' H' → Reps K M' H' vs xs → Q vs H'
/-- the wished ends hold the data ends -/
structure EndsOk (M : Wd) (H : Hp) (D' : DEnds) (D : Ends) : Prop where
  nx : ∀ ds' M' σ' H', D'.nx ds' M'.m → Le M H M' H' → RelM K M' H' → RelS K M' H' σ' ds' → D.nx σ' H'
  rt : ∀ d M' v H', D'.rt d M'.m → Le M H M' H' → RelM K M' H' → Rep K M' H' v d → D.rt v H'
  bk : ∀ ds' M' σ' H', D'.bk ds' M'.m → Le M H M' H' → RelM K M' H' → RelS K M' H' σ' ds' → D.bk σ' H'
  ct : ∀ ds' M' σ' H', D'.ct ds' M'.m → Le M H M' H' → RelM K M' H' → RelS K M' H' σ' ds' → D.ct σ' H'
def lS (t : DSt) : TS := fun D σ H => ∃ ds M D', Le M0 H0 M H ∧ RelM K M H ∧ RelS K M H σ ds ∧ t D' ds M.m ∧ EndsOk K M H D' D
def Pay (M : Wd) (H : Hp) (dd : Option Addr) : Option D → Prop
  | none => dd = none
  | some d => ∃ x v, dd = some x ∧ H x = some (.xd [("limit", v)]) ∧ Rep K M H v d
def lX (E' : XD) : WX := fun cls dd σ H => ∃ pl M, E' cls pl M.m ∧ Le M0 H0 M H ∧ RelM K M H ∧ Pay K M H dd pl
end
theorem EndsOk.mono {K : PySem.W.Frag} {M M1 : Wd} {H H1 : Hp} {D' : DEnds} {D : Ends} (l : Le M H M1 H1) (e : EndsOk K M H D' D) : EndsOk K M1 H1 D' D :=
  ⟨fun a b c d h l1 => e.nx a b c d h (l.trans l1), fun a b c d h l1 => e.rt a b c d h (l.trans l1), fun a b c d h l1 => e.bk a b c d h (l.trans l1), fun a b c d h l1 => e.ct a b c d h (l.trans l1)⟩

abbrev EE (X : Cx) (M0 : Wd) (H0 : Hp) (e : Expr) (t : DE) : Prop := PE X e (lE X.K M0 H0 t)
abbrev ET (X : Cx) (M0 : Wd) (H0 : Hp) (e : Expr) (t : DT) : Prop := PT X e (lT X.K M0 H0 t)
abbrev EW (X : Cx) (M0 : Wd) (H0 : Hp) (e : Expr) (t : DT) : Prop := PW X e (lT X.K M0 H0 t)
abbrev EA (X : Cx) (M0 : Wd) (H0 : Hp) (es : List Expr) (t : DA) : Prop := PA X es (lA X.K M0 H0 t)
abbrev ES (X : Cx) (M0 : Wd) (H0 : Hp) (s : Stmt) (t : DSt) : Prop := PS X s (lS X.K M0 H0 t)
abbrev EB (X : Cx) (M0 : Wd) (H0 : Hp) (s : List Stmt) (t : DSt) : Prop := PSs X s (lS X.K M0 H0 t)

section
variable {X : Cx}
theorem pe_imp {e : Expr} {t t' : TE} (h : PE X e t) (i : ∀ σ H Q, t' σ H Q → t σ H Q) : PE X e t' := ⟨fun pins s σ H Q I q => h.run pins s σ H Q I (i σ H Q q)⟩
theorem pt_imp {e : Expr} {t t' : TT} (h : PT X e t) (i : ∀ σ H Q, t' σ H Q → t σ H Q) : PT X e t' := ⟨fun pins s σ H Q I q => h.run pins s σ H Q I (i σ H Q q)⟩
theorem pw_imp {e : Expr} {t t' : TT} (h : PW X e t) (i : ∀ σ H Q, t' σ H Q → t σ H Q) : PW X e t' := ⟨fun w pins s σ H Q I q => h.run w pins s σ H Q I (i σ H Q q)⟩
theorem pa_imp {e : List Expr} {t t' : TA} (h : PA X e t) (i : ∀ σ H Q, t' σ H Q → t σ H Q) : PA X e t' := ⟨fun pos pins s σ H Q I q => h.run pos pins s σ H Q I (i σ H Q q)⟩
theorem ps_imp {e : Stmt} {t t' : TS} (h : PS X e t) (i : ∀ D σ H, t' D σ H → t D σ H) : PS X e t' := ⟨fun pins s σ H D I q => h.run pins s σ H D I (i D σ H q)⟩
theorem pss_imp {e : List Stmt} {t t' : TS} (h : PSs X e t) (i : ∀ D σ H, t' D σ H → t D σ H) : PSs X e t' := ⟨fun pins s σ H D I q => h.run pins s σ H D I (i D σ H q)⟩
theorem pg_imp {e : Expr} {t t' : TG} (h : PG X e t) (i : ∀ v σ H Q, t' v σ H Q → t v σ H Q) : PG X e t' := ⟨fun pins s σ H v u Q I r q => h.run pins s σ H v u Q I r (i v σ H Q q)⟩
end

section
variable {X : Cx} {M0 : Wd} {H0 : Hp} {a b e : Expr} {es : List Expr} {ta tb tc : DE} {t u : DT} {pos : Pos}
/-! ### names, constants -/
def dVar (i : Nat) : DE := fun ds M Q => match ds[i]? with | some (some d) => Q d M | _ => False
theorem d_var (i : Nat) {x : Str} (hN : X.N[i]? = some x := by rfl) (hv : Vis X.env.scope x := by first | exact Or.inl rfl | exact Or.inr (Or.inl rfl) | exact Or.inr (Or.inr rfl)) (hd : (x == ("__debug__" : Str)) = false := by decide)
    (hcd : (x == ("__classdict__" : Str)) = false := by decide) : EE X M0 H0 (.Name x pos) (dVar i) := by
  refine pe_imp (pv i hN hv hd hcd) ?_
  rintro σ H Q ⟨ds, M, Q', le, rm, rs, h, hq⟩
  unfold dVar at h
  split at h
  · rename_i d e
    obtain ⟨v, e1, r⟩ := rs.get e
    exact ⟨v, e1, hq _ _ _ _ h .refl rm r⟩
  · exact h.elim
/-- a list of ours, from here on never changed -/
def dVarF (i : Nat) : DE := fun ds M Q => match ds[i]? with
  | some (some (.ref a)) => ∃ xs, M a = some (.lst xs) ∧ Q (.lst xs) (mrm M a)
  | _ => False
theorem Le.rm {M : Wd} {H : Hp} {a : Addr} : Le M H ⟨mrm M.m a, M.s⟩ H := ⟨fun b o h1 h2 => ⟨by show mrm M.m a b = none; unfold mrm; split <;> first | rfl | exact h1, h2⟩, rfl⟩
theorem RelM.rm {K : PySem.W.Frag} {M : Wd} {H : Hp} {a : Addr} (r : RelM K M H) : RelM K ⟨mrm M.m a, M.s⟩ H := ⟨fun b o h => by
  have h : mrm M.m a b = some o := h
  unfold mrm at h
  split at h
  · cases h
  · exact (r.o b o h).mono Le.rm.w rfl, fun b z => ⟨(Le.rm.1 b _ (r.h b z).1 (r.h b z).2.choose_spec).1, (r.h b z).2⟩⟩
theorem Rep.frozen {K : PySem.W.Frag} {M : Wd} {H : Hp} {a : Addr} {xs : List D} (r : RelM K M H) (h : M.m a = some (.lst xs)) : Rep K ⟨mrm M.m a, M.s⟩ H (.ref a) (.lst xs) := by
  obtain ⟨vs, e, q⟩ := r.o a _ h
  exact Rep.lst_iff.mpr ⟨a, vs, rfl, ⟨mrm_same, fun z => (by have := (r.h a z).1; rw [h] at this; cases this), e⟩, q.mono Le.rm.w⟩
theorem d_varF (i : Nat) {x : Str} (hN : X.N[i]? = some x := by rfl) (hv : Vis X.env.scope x := by first | exact Or.inl rfl | exact Or.inr (Or.inl rfl) | exact Or.inr (Or.inr rfl)) (hd : (x == ("__debug__" : Str)) = false := by decide)
    (hcd : (x == ("__classdict__" : Str)) = false := by decide) : EE X M0 H0 (.Name x pos) (dVarF i) := by
  refine pe_imp (pv i hN hv hd hcd) ?_
  rintro σ H Q ⟨ds, M, Q', le, rm, rs, h, hq⟩
  unfold dVarF at h
  split at h
  · rename_i a e
    obtain ⟨xs, h1, h2⟩ := h
    obtain ⟨v, e1, r⟩ := rs.get e
    rw [Rep.ref_iff] at r
    subst r
    exact ⟨_, e1, hq _ ⟨mrm M.m a, M.s⟩ _ _ h2 Le.rm rm.rm (.frozen rm h1)⟩
  · exact h.elim
def dC (d : D) : DE := fun _ M Q => Q d M
theorem d_c {v : V} {d : D} (h : PE X e (tC v)) (r : ∀ M H, Rep X.K M H v d) : EE X M0 H0 e (dC d) := pe_imp h fun σ H Q ⟨ds, M, Q', le, rm, rs, h, hq⟩ => hq _ _ _ _ h .refl rm (r _ _)
theorem d_int {i j} : EE X M0 H0 (.Constant (.int i) j pos) (dC (.int i)) := d_c pe_int fun _ _ => Rep.int_iff.mpr rfl
theorem d_bl {b j} : EE X M0 H0 (.Constant (.bool b) j pos) (dC (.bl b)) := d_c pe_bl fun _ _ => Rep.bl_iff.mpr rfl
theorem d_non {j} : EE X M0 H0 (.Constant .none j pos) (dC .non) := d_c pe_non fun _ _ => Rep.non_iff.mpr rfl
theorem d_str {x j} : EE X M0 H0 (.Constant (.str x) j pos) (dC (.str x)) := d_c pe_str fun _ _ => Rep.str_iff.mpr rfl
/-- a module's constant, a number or a text -/
theorem d_globI {x : Str} {i : Int} {tk : Tok} (hg : Gl X x) (hm : X.mg x = some (.int i tk)) (hd : (x == ("__debug__" : Str)) = false := by decide) : EE X M0 H0 (.Name x pos) (dC (.int i)) := d_c (v := .int i) (pe_glob hg hm ⟨_, rfl⟩ hd) fun _ _ => Rep.int_iff.mpr rfl
theorem d_globS {x : Str} {i : Str} {tk : Tok} (hg : Gl X x) (hm : X.mg x = some (.str i tk)) (hd : (x == ("__debug__" : Str)) = false := by decide) : EE X M0 H0 (.Name x pos) (dC (.str i)) := d_c (v := .str i) (pe_glob hg hm ⟨_, rfl⟩ hd) fun _ _ => Rep.str_iff.mpr rfl

/-! ### operators -/
abbrev DR := D → D → Mp → DK → Prop
def dOp (r : DR) (ta tb : DE) : DE := fun ds M Q => ta ds M fun x M1 => tb ds M1 fun y M2 => r x y M2 Q
/-- rv does what r says -/
def RvOk (K : PySem.W.Frag) (rv : R2) (r : DR) : Prop := ∀ x y M H Q' Q u v, RelM K M H → Rep K M H u x → Rep K M H v y → r x y M.m Q' → (∀ d M' v H', Q' d M'.m → Le M H M' H' → RelM K M' H' → Rep K M' H' v d → Q v H') → rv u v H Q
def OpD (X : Cx) (f : Value → Value → Sem Value) (r : DR) : Prop := ∃ rv : R2, OpR X f rv ∧ RvOk X.K rv r
theorem tOp_l {K : PySem.W.Frag} {rv : R2} {r : DR} (hr : RvOk K rv r) {σ : L2.St} {H : Hp} {Q : VK} (h : lE K M0 H0 (dOp r ta tb) σ H Q) : tOp rv (lE K M0 H0 ta) (lE K M0 H0 tb) σ H Q := by
  obtain ⟨ds, M, Q', le, rm, rs, h, hq⟩ := h
  refine ⟨ds, M, _, le, rm, rs, h, fun d1 M1 v1 H1 h1 l1 rm1 r1 => ?_⟩
  refine ⟨ds, M1, _, le.trans l1, rm1, rs.mono l1.w, h1, fun d2 M2 v2 H2 h2 l2 rm2 r2 => ?_⟩
  exact hr d1 d2 M2 H2 Q' Q v1 v2 rm2 (r1.mono l2.w) r2 h2 fun d M' v H' q l => hq d M' v H' q ((l1.trans l2).trans l)
theorem d_op {op : Operator} {r : DR} (ho : OpD X (binaryOp op) r) (ha : EE X M0 H0 a ta) (hb : EE X M0 H0 b tb) : EE X M0 H0 (.BinOp a op b pos) (dOp r ta tb) := by
  obtain ⟨rv, ho, hr⟩ := ho
  exact pe_imp (pe_op ho ha hb) fun σ H Q h => tOp_l hr h
theorem d_cmp {op : CmpOp} {r : DR} (ho : OpD X (compareOp op) r) (ha : EE X M0 H0 a ta) (hb : EE X M0 H0 b tb) (hm : behindInMarks op b = false := by first | exact nomark _ | exact (by with_unfolding_all rfl)) : EE X M0 H0 (.Compare a [op] [b] pos) (dOp r ta tb) := by
  obtain ⟨rv, ho, hr⟩ := ho
  exact pe_imp (pe_cmpR ho ha hb hm) fun σ H Q h => tOp_l hr h
/-- a value that is True or False, as a test -/
def dB (te : DE) : DT := fun ds M Q => te ds M fun x M1 => match x with | .bl b => Q b M1 | _ => False
theorem dt_cmp {op : CmpOp} {r : DR} (ho : OpD X (compareOp op) r) (ha : EE X M0 H0 a ta) (hb : EE X M0 H0 b tb) (hm : behindInMarks op b = false := by first | exact nomark _ | exact (by with_unfolding_all rfl)) : ET X M0 H0 (.Compare a [op] [b] pos) (dB (dOp r ta tb)) := by
  obtain ⟨rv, ho, hr⟩ := ho
  refine pt_imp (pt_cmpR ho ha hb hm) fun σ H Q ⟨ds, M, Q', le, rm, rs, h, hq⟩ => ?_
  refine tOp_l (r := r) hr (Q := fun x H' => ∃ k, x = .bl k ∧ Q k H') ⟨ds, M, _, le, rm, rs, h, fun d M' v H' q l rm' r' => ?_⟩
  cases d with
  | bl b => rw [Rep.bl_iff] at r'; exact ⟨b, r', hq _ _ _ q l rm'⟩
  | _ => exact q.elim
theorem dt_val (h : EE X M0 H0 e ta) (he : ∀ whole, isTrue e X.env whole = (do let v ← whole; standAt e.pos; holding [v] (truthy v)) := by intro _; rfl) : ET X M0 H0 e (dB ta) := by
  refine pt_imp (pt_val h he) fun σ H Q ⟨ds, M, Q', le, rm, rs, h, hq⟩ => ?_
  refine ⟨ds, M, _, le, rm, rs, h, fun d M' v H' q l rm' r' => ?_⟩
  cases d with
  | bl b => rw [Rep.bl_iff] at r'; exact ⟨b, r', hq _ _ _ q l rm'⟩
  | _ => exact q.elim
def dAnd (t u : DT) : DT := fun ds M Q => t ds M fun c M1 => if c = true then u ds M1 Q else Q false M1
def dOr (t u : DT) : DT := fun ds M Q => t ds M fun c M1 => if c = true then Q true M1 else u ds M1 Q
def dNot (t : DT) : DT := fun ds M Q => t ds M fun c M1 => Q (!c) M1
theorem dw_and1 (ha : ET X M0 H0 a t) : EW X M0 H0 (.BoolOp .And [a] pos) t := pw_and1 ha
theorem dw_or1 (ha : ET X M0 H0 a t) : EW X M0 H0 (.BoolOp .Or [a] pos) t := pw_or1 ha
theorem dw_and {rest : List Expr} (ha : ET X M0 H0 a t) (hb : EW X M0 H0 (.BoolOp .And (b :: rest) pos) u) : EW X M0 H0 (.BoolOp .And (a :: b :: rest) pos) (dAnd t u) := by
  refine pw_imp (pw_and ha hb) fun σ H Q ⟨ds, M, Q', le, rm, rs, h, hq⟩ => ?_
  refine ⟨ds, M, _, le, rm, rs, h, fun c M1 H1 q l rm1 => ?_⟩
  cases c with
  | true => exact iteT ⟨ds, M1, _, le.trans l, rm1, rs.mono l.w, uT q, fun b M' H' q' l' => hq b M' H' q' (l.trans l')⟩
  | false => exact iteF (hq _ _ _ (uF q) l rm1)
theorem dw_or {rest : List Expr} (ha : ET X M0 H0 a t) (hb : EW X M0 H0 (.BoolOp .Or (b :: rest) pos) u) : EW X M0 H0 (.BoolOp .Or (a :: b :: rest) pos) (dOr t u) := by
  refine pw_imp (pw_or ha hb) fun σ H Q ⟨ds, M, Q', le, rm, rs, h, hq⟩ => ?_
  refine ⟨ds, M, _, le, rm, rs, h, fun c M1 H1 q l rm1 => ?_⟩
  cases c with
  | false => exact iteF ⟨ds, M1, _, le.trans l, rm1, rs.mono l.w, uF q, fun b M' H' q' l' => hq b M' H' q' (l.trans l')⟩
  | true => exact iteT (hq _ _ _ (uT q) l rm1)
theorem dt_w (h : EW X M0 H0 e t) : ET X M0 H0 e t := h.pt
theorem dt_not (h : ET X M0 H0 a t) : ET X M0 H0 (.UnaryOp .Not a pos) (dNot t) := by
  refine pt_imp (pt_not h) fun σ H Q ⟨ds, M, Q', le, rm, rs, h, hq⟩ => ?_
  exact ⟨ds, M, _, le, rm, rs, h, fun c M1 H1 q l rm1 => hq _ _ _ q l rm1⟩
def dIf (t : DT) (ta tb : DE) : DE := fun ds M Q => t ds M fun c M1 => if c = true then ta ds M1 Q else tb ds M1 Q
theorem d_if {c : Expr} (hc : ET X M0 H0 c t) (ha : EE X M0 H0 a ta) (hb : EE X M0 H0 b tb) : EE X M0 H0 (.IfExp c a b pos) (dIf t ta tb) := by
  refine pe_imp (pe_ifExp hc ha hb) fun σ H Q ⟨ds, M, Q', le, rm, rs, h, hq⟩ => ?_
  refine ⟨ds, M, _, le, rm, rs, h, fun c M1 H1 q l rm1 => ?_⟩
  cases c with
  | true => exact iteT ⟨ds, M1, _, le.trans l, rm1, rs.mono l.w, uT q, fun b M' v H' q' l' => hq b M' v H' q' (l.trans l')⟩
  | false => exact iteF ⟨ds, M1, _, le.trans l, rm1, rs.mono l.w, uF q, fun b M' v H' q' l' => hq b M' v H' q' (l.trans l')⟩
/-- .. as values -/
def dAndV (ta tb : DE) : DE := fun ds M Q => ta ds M fun x M1 => match x with | .bl c => if c = true then tb ds M1 Q else Q (.bl false) M1 | _ => False
def dOrV (ta tb : DE) : DE := fun ds M Q => ta ds M fun x M1 => match x with | .bl c => if c = true then Q (.bl true) M1 else tb ds M1 Q | _ => False
def dNotV (ta : DE) : DE := fun ds M Q => ta ds M fun x M1 => match x with | .bl c => Q (.bl (!c)) M1 | _ => False
theorem d_one {op} (h : EE X M0 H0 a ta) : EE X M0 H0 (.BoolOp op [a] pos) ta := pe_one h
theorem d_and {rest : List Expr} (ha : EE X M0 H0 a ta) (hb : EE X M0 H0 (.BoolOp .And (b :: rest) pos) tb) : EE X M0 H0 (.BoolOp .And (a :: b :: rest) pos) (dAndV ta tb) := by
  refine pe_imp (pe_and ha hb) fun σ H Q ⟨ds, M, Q', le, rm, rs, h, hq⟩ => ?_
  refine ⟨ds, M, _, le, rm, rs, h, fun d M1 v H1 q l rm1 r1 => ?_⟩
  cases d with
  | bl c =>
    rw [Rep.bl_iff] at r1
    refine ⟨c, r1, ?_⟩
    cases c with
    | true => exact iteT ⟨ds, M1, _, le.trans l, rm1, rs.mono l.w, uT q, fun b M' v H' q' l' => hq b M' v H' q' (l.trans l')⟩
    | false => exact iteF (hq _ _ _ _ (uF q) l rm1 (Rep.bl_iff.mpr rfl))
  | _ => exact q.elim
theorem d_or {rest : List Expr} (ha : EE X M0 H0 a ta) (hb : EE X M0 H0 (.BoolOp .Or (b :: rest) pos) tb) : EE X M0 H0 (.BoolOp .Or (a :: b :: rest) pos) (dOrV ta tb) := by
  refine pe_imp (pe_or ha hb) fun σ H Q ⟨ds, M, Q', le, rm, rs, h, hq⟩ => ?_
  refine ⟨ds, M, _, le, rm, rs, h, fun d M1 v H1 q l rm1 r1 => ?_⟩
  cases d with
  | bl c =>
    rw [Rep.bl_iff] at r1
    refine ⟨c, r1, ?_⟩
    cases c with
    | false => exact iteF ⟨ds, M1, _, le.trans l, rm1, rs.mono l.w, uF q, fun b M' v H' q' l' => hq b M' v H' q' (l.trans l')⟩
    | true => exact iteT (hq _ _ _ _ (uT q) l rm1 (Rep.bl_iff.mpr rfl))
  | _ => exact q.elim
theorem d_not (ha : EE X M0 H0 a ta) : EE X M0 H0 (.UnaryOp .Not a pos) (dNotV ta) := by
  refine pe_imp (pe_not ha) fun σ H Q ⟨ds, M, Q', le, rm, rs, h, hq⟩ => ?_
  refine ⟨ds, M, _, le, rm, rs, h, fun d M1 v H1 q l rm1 r1 => ?_⟩
  cases d with
  | bl c => rw [Rep.bl_iff] at r1; exact ⟨c, r1, hq _ _ _ _ q l rm1 (Rep.bl_iff.mpr rfl)⟩
  | _ => exact q.elim

/-! ### the operators' meanings -/
theorem RvOk.or {K : PySem.W.Frag} {rv1 rv2 : R2} {r1 r2 : DR} (h1 : RvOk K rv1 r1) (h2 : RvOk K rv2 r2) : RvOk K (fun u v H Q => rv1 u v H Q ∨ rv2 u v H Q) (fun x y M Q => r1 x y M Q ∨ r2 x y M Q) :=
  fun x y M H Q' Q u v rm ru rv h hq => h.elim (fun h => .inl (h1 x y M H Q' Q u v rm ru rv h hq)) fun h => .inr (h2 x y M H Q' Q u v rm ru rv h hq)
theorem OpR.or {f : Value → Value → Sem Value} {r1 r2 : R2} (h1 : OpR X f r1) (h2 : OpR X f r2) : OpR X f (fun u v H Q => r1 u v H Q ∨ r2 u v H Q) :=
  fun pins s σ H x y v u Q I rx ry h => h.elim (fun h => h1 pins s σ H x y v u Q I rx ry h) fun h => h2 pins s σ H x y v u Q I rx ry h
theorem OpD.or {f : Value → Value → Sem Value} {r1 r2 r : DR} (h1 : OpD X f r1) (h2 : OpD X f r2) (h : ∀ x y M Q, r x y M Q → r1 x y M Q ∨ r2 x y M Q) : OpD X f r := by
  obtain ⟨v1, o1, k1⟩ := h1
  obtain ⟨v2, o2, k2⟩ := h2
  exact ⟨_, OpR.or o1 o2, fun x y M H Q' Q u v rm ru rv q hq => (RvOk.or k1 k2) x y M H Q' Q u v rm ru rv (h _ _ _ _ q) hq⟩
/-- a number of two numbers -/
def rII (C : Int → Int → Prop) (g : Int → Int → Int) : DR := fun x y M Q => match x, y with | .int i, .int j => C i j ∧ Q (.int (g i j)) M | _, _ => False
def rIB (g : Int → Int → Bool) : DR := fun x y M Q => match x, y with | .int i, .int j => Q (.bl (g i j)) M | _, _ => False
def rI0 (g : Int → Int → Int) : DR := fun x y M Q => match x, y with | .int i, .int j => Q (.int (g i j)) M | _, _ => False
theorem opd_II {f : Value → Value → Sem Value} {C : Int → Int → Prop} {g : Int → Int → Int} (h : OpR X f (L2.rI C fun i j => .int (g i j))) : OpD X f (rII C g) := by
  refine ⟨_, h, fun x y M H Q' Q u v rm ru rv q hq => ?_⟩
  unfold rII at q
  split at q
  · rw [Rep.int_iff] at ru rv
    exact ⟨_, _, ru, rv, q.1, hq _ _ _ _ q.2 .refl rm (Rep.int_iff.mpr rfl)⟩
  · exact q.elim
theorem opd_I0 {f : Value → Value → Sem Value} {g : Int → Int → Int} (h : OpR X f (L2.rI0 fun i j => .int (g i j))) : OpD X f (rI0 g) := by
  refine ⟨_, h, fun x y M H Q' Q u v rm ru rv q hq => ?_⟩
  unfold rI0 at q
  split at q
  · rw [Rep.int_iff] at ru rv
    exact ⟨_, _, ru, rv, hq _ _ _ _ q .refl rm (Rep.int_iff.mpr rfl)⟩
  · exact q.elim
theorem opd_IB {f : Value → Value → Sem Value} {g : Int → Int → Bool} (h : OpR X f (L2.rI0 fun i j => .bl (g i j))) : OpD X f (rIB g) := by
  refine ⟨_, h, fun x y M H Q' Q u v rm ru rv q hq => ?_⟩
  unfold rIB at q
  split at q
  · rw [Rep.int_iff] at ru rv
    exact ⟨_, _, ru, rv, hq _ _ _ _ q .refl rm (Rep.bl_iff.mpr rfl)⟩
  · exact q.elim
theorem o_sub : OpD X (binaryOp .Sub) (rI0 fun i j => i - j) := opd_I0 op_sub
theorem o_mul : OpD X (binaryOp .Mult) (rII CMulX fun i j => i * j) := opd_II op_mulX
theorem o_fdiv : OpD X (binaryOp .FloorDiv) (rII CDivW fun i j => i / j) := opd_II op_fdivW
theorem o_mod : OpD X (binaryOp .Mod) (rII (fun _ j => 0 < j) fun i j => i % j) := opd_II op_mod
theorem o_and : OpD X (binaryOp .BitAnd) (rI0 Builtin.bitAnd) := opd_I0 op_and
theorem o_or : OpD X (binaryOp .BitOr) (rI0 Builtin.bitOr) := opd_I0 op_or
theorem o_shl : OpD X (binaryOp .LShift) (rII CShl fun i j => i * 2 ^ j.toNat) := opd_II op_shlW
theorem o_shr : OpD X (binaryOp .RShift) (rII (fun _ j => 0 ≤ j) fun i j => i / 2 ^ j.toNat) := opd_II op_shr
def CPowX (i j : Int) : Prop := 0 ≤ j ∧ (Builtin.Int.intBits i : Int) * j ≤ 2 ^ 27
theorem op_powX : OpR X (binaryOp .Pow) (L2.rI CPowX fun i j => .int (i ^ j.toNat)) := opI fun _ _ _ _ _ _ _ hc q => pow_int hc.1 hc.2 q
theorem o_pow : OpD X (binaryOp .Pow) (rII CPowX fun i j => i ^ j.toNat) := opd_II op_powX
theorem o_lt : OpD X (compareOp .Lt) (rIB fun i j => decide (i < j)) := opd_IB op_lt
theorem o_le : OpD X (compareOp .LtE) (rIB fun i j => decide (i ≤ j)) := opd_IB op_le
theorem o_gt : OpD X (compareOp .Gt) (rIB fun i j => decide (j < i)) := opd_IB op_gt
theorem o_ge : OpD X (compareOp .GtE) (rIB fun i j => decide (j ≤ i)) := opd_IB op_ge
end
end Lt
namespace Lt
open PySem PySem.Spec PyProof.Rows L2

section
variable {X : Cx} {M0 : Wd} {H0 : Hp} {a b e : Expr} {es : List Expr} {ta tb tc te : DE} {t u : DT} {ts : DA} {pos : Pos}
variable {K : PySem.W.Frag} {M W : Wd} {H : Hp}

/-! ### argument lists, displays -/
def dNil : DA := fun _ M Q => Q [] M
def dCons (t : DE) (r : DA) : DA := fun ds M Q => t ds M fun x M1 => r ds M1 fun xs M2 => Q (x :: xs) M2
theorem da_nil : EA X M0 H0 [] dNil := pa_imp pa_nil fun σ H Q ⟨ds, M, Q', le, rm, rs, h, hq⟩ => hq _ M _ _ h .refl rm .nil
theorem da_cons (ha : EE X M0 H0 e ta) (hr : EA X M0 H0 es ts) (hs : starEach (e :: es) X.env = (false, eval e X.env) :: starEach es X.env := by rfl) : EA X M0 H0 (e :: es) (dCons ta ts) := by
  refine pa_imp (pa_cons ha hr hs) fun σ H Q ⟨ds, M, Q', le, rm, rs, h, hq⟩ => ?_
  refine ⟨ds, M, _, le, rm, rs, h, fun d1 M1 v1 H1 h1 l1 rm1 r1 => ?_⟩
  exact ⟨ds, M1, _, le.trans l1, rm1, rs.mono l1.w, h1, fun xs M2 vs H2 q l2 rm2 r2 => hq _ M2 _ _ q (l1.trans l2) rm2 (.cons (r1.mono l2.w) r2)⟩
def dTup (t : DA) : DE := fun ds M Q => t ds M fun xs M1 => xs.length ≤ sizeLine ∧ Q (.tup xs) M1
def dLst (t : DA) : DE := fun ds M Q => t ds M fun xs M1 => xs.length ≤ sizeLine ∧ Q (.lst xs) M1
def dLstM (t : DA) : DE := fun ds M Q => t ds M fun xs M1 => xs.length ≤ sizeLine ∧ ∀ p, M1 p = none → Q (.ref p) (mup M1 p (.lst xs))
theorem d_tup {x1} (h : EA X M0 H0 es ts) : EE X M0 H0 (.Tuple es x1 pos) (dTup ts) := by
  refine pe_imp (pe_tup h) fun σ H Q ⟨ds, M, Q', le, rm, rs, h, hq⟩ => ?_
  refine ⟨ds, M, _, le, rm, rs, h, fun xs M1 vs H1 q l1 rm1 r1 => ⟨by rw [r1.len]; exact q.1, fun p hp => ?_⟩⟩
  exact hq _ M1 _ _ q.2 (l1.trans (.new hp)) (rm1.new hp) (.tupN rm1 hp r1)
theorem d_lst (h : EA X M0 H0 es ts) : EE X M0 H0 (.List es pos) (dLst ts) := by
  refine pe_imp (pe_lst h) fun σ H Q ⟨ds, M, Q', le, rm, rs, h, hq⟩ => ?_
  refine ⟨ds, M, _, le, rm, rs, h, fun xs M1 vs H1 q l1 rm1 r1 => ⟨by rw [r1.len]; exact q.1, fun p hp => ?_⟩⟩
  exact hq _ M1 _ _ q.2 (l1.trans (.new hp)) (rm1.new hp) (.lstN rm1 hp r1)
theorem d_lstM (h : EA X M0 H0 es ts) : EE X M0 H0 (.List es pos) (dLstM ts) := by
  refine pe_imp (pe_lst h) fun σ H Q ⟨ds, M, Q', le, rm, rs, h, hq⟩ => ?_
  refine ⟨ds, M, _, le, rm, rs, h, fun xs M1 vs H1 q l1 rm1 r1 => ⟨by rw [r1.len]; exact q.1, fun p hp => ?_⟩⟩
  have ln := Le.newM (o := .lst vs) (mo := .lst xs) rm1 hp
  exact hq _ ⟨mup M1.m p (.lst xs), M1.s⟩ _ _ (q.2 p (rm1.free hp)) (l1.trans ln) (rm1.newM hp ⟨vs, upd_same, r1.mono ln.w⟩) (Rep.ref_iff.mpr rfl)

/-! ### + -/
def rAdd : DR := fun x y M Q => match x, y with
  | .int i, .int j => Q (.int (i + j)) M
  | .str i, .str j => i.length + j.length ≤ sizeLine ∧ Q (.str (i ++ j)) M
  | .tup i, .tup j => i.length + j.length ≤ sizeLine ∧ Q (.tup (i ++ j)) M
  | .lst i, .lst j => i.length + j.length ≤ sizeLine ∧ Q (.lst (i ++ j)) M
  | _, _ => False
theorem Reps.nil_of {xs : List V} {i : List D} (r : Reps K M H xs i) (h : xs = []) : i = [] := by
  have := r.len; rw [h] at this; exact List.length_eq_zero_iff.mp this.symm
theorem o_add : OpD X (binaryOp .Add) rAdd := by
  refine ⟨_, OpR.or op_add (OpR.or op_add_str (OpR.or op_catA op_cat)), fun x y M H Q' Q u v rm ru rv q hq => ?_⟩
  unfold rAdd at q
  split at q
  · rw [Rep.int_iff] at ru rv
    exact .inl ⟨_, _, ru, rv, hq _ M _ _ q .refl rm (Rep.int_iff.mpr rfl)⟩
  · rw [Rep.str_iff] at ru rv
    exact .inr (.inl ⟨_, _, ru, rv, q.1, hq _ M _ _ q.2 .refl rm (Rep.str_iff.mpr rfl)⟩)
  · rename_i i j
    obtain ⟨a, xs, rfl, ha, ra⟩ := Rep.tup_iff.mp ru
    obtain ⟨b, ys, rfl, hb, rb⟩ := Rep.tup_iff.mp rv
    refine .inr (.inr (.inl ⟨a, b, xs, ys, rfl, rfl, ha.sq, hb.sq, by rw [ra.len, rb.len]; exact q.1, fun hx => ?_, fun hx hy => ?_, fun hx hy p hp => ?_⟩))
    · refine hq _ M _ _ q.2 .refl rm ?_
      rw [ra.nil_of hx]; exact rv
    · refine hq _ M _ _ q.2 .refl rm ?_
      rw [rb.nil_of hy, List.append_nil]; exact ru
    · exact hq _ M _ _ q.2 (.new hp) (rm.new hp) (.tupN rm hp (ra.append rb))
  · obtain ⟨a, xs, rfl, ha, ra⟩ := Rep.lst_iff.mp ru
    obtain ⟨b, ys, rfl, hb, rb⟩ := Rep.lst_iff.mp rv
    exact .inr (.inr (.inr ⟨a, b, xs, ys, rfl, rfl, ha.2.2, hb.2.2, by rw [ra.len, rb.len]; exact q.1, fun p hp => hq _ M _ _ q.2 (.new hp) (rm.new hp) (.lstN rm hp (ra.append rb))⟩))
  · exact q.elim
/-- int * int, list * int, tuple * int -/
def rMul : DR := fun x y M Q => match x, y with
  | .int i, .int j => CMulX i j ∧ Q (.int (i * j)) M
  | .lst xs, .int k => 0 ≤ k ∧ k < 2 ^ 63 ∧ xs.length * k.toNat ≤ sizeLine ∧ Q (.lst (List.replicate k.toNat xs).flatten) M
  | .tup xs, .int k => xs ≠ [] ∧ 2 ≤ k ∧ k ≤ 1000 ∧ xs.length ≤ 1000 ∧ Q (.tup (List.replicate k.toNat xs).flatten) M
  | .str z, .int k => MulOk z k ∧ Q (.str (Txt.mul z k)) M
  | _, _ => False
theorem op_mulStr : OpR X (binaryOp .Mult) (fun x y H Q => ∃ a k, x = .str a ∧ y = .int k ∧ MulOk a k ∧ Q (.str (Txt.mul a k)) H) := by
  intro pins s σ H x y v u Q I rx ry h
  obtain ⟨a, k, rfl, rfl, ok, q⟩ := h
  obtain ⟨t, rfl⟩ := rx
  obtain ⟨t2, rfl⟩ := ry
  exact SB.mul ok fun t' k => ⟨.str _, H, I.tok k, ⟨t', rfl⟩, q⟩
theorem Reps.rep {vs : List V} {ds : List D} (r : Reps K M H vs ds) : ∀ n, Reps K M H (List.replicate n vs).flatten (List.replicate n ds).flatten
  | 0 => .nil
  | n + 1 => by
    rw [List.replicate_succ, List.replicate_succ, List.flatten_cons, List.flatten_cons]
    exact r.append (r.rep n)
theorem o_mulA : OpD X (binaryOp .Mult) rMul := by
  refine ⟨_, OpR.or op_mulX (OpR.or op_rep (OpR.or op_repT op_mulStr)), fun x y M H Q' Q u v rm ru rv q hq => ?_⟩
  unfold rMul at q
  split at q
  · rw [Rep.int_iff] at ru rv
    exact .inl ⟨_, _, ru, rv, q.1, hq _ M _ _ q.2 .refl rm (Rep.int_iff.mpr rfl)⟩
  · obtain ⟨a, xs, rfl, ha, ra⟩ := Rep.lst_iff.mp ru
    rw [Rep.int_iff] at rv
    obtain ⟨q1, q2, q3, q4⟩ := q
    exact .inr (.inl ⟨a, _, xs, rfl, rv, ha.2.2, by omega, q2, by rw [ra.len]; exact q3, fun p hp => hq _ M _ _ q4 (.new hp) (rm.new hp) (.lstN rm hp (ra.rep _))⟩)
  · obtain ⟨a, xs, rfl, ha, ra⟩ := Rep.tup_iff.mp ru
    rw [Rep.int_iff] at rv
    obtain ⟨q1, q2, q3, q4, q5⟩ := q
    exact .inr (.inr (.inl ⟨a, _, xs, rfl, rv, ha.sq, fun z => q1 (ra.nil_of z), q2, q3, by rw [ra.len]; exact q4, fun p hp => hq _ M _ _ q5 (.new hp) (rm.new hp) (.tupN rm hp (ra.rep _))⟩))
  · rw [Rep.str_iff] at ru
    rw [Rep.int_iff] at rv
    exact .inr (.inr (.inr ⟨_, _, ru, rv, q.1, hq _ M _ _ q.2 .refl rm (Rep.str_iff.mpr rfl)⟩))
  · exact q.elim
/-! ### subscripts -/
def rIxD : DR := fun x y M Q => match x, y with
  | .lst xs, .int i => ∃ d, atI xs i = some d ∧ Q d M
  | .tup xs, .int i => ∃ d, atI xs i = some d ∧ Q d M
  | .scr ns, .int i => ∃ n, atI ns i = some n ∧ Q (.int n) M
  | .str z, .int i => z.length ≤ sizeLine ∧ ∃ c, atI z.cps.toList i = some c ∧ Q (.str ⟨#[c]⟩) M
  | .ref a, .int i => ∃ xs d, M a = some (.lst xs) ∧ atI xs i = some d ∧ Q d M
  | _, _ => False
theorem Reps.at {vs : List V} {ds : List D} {i : Int} {d : D} (r : Reps K M H vs ds) (h : atI ds i = some d) : ∃ v, atI vs i = some v ∧ Rep K M H v d := by
  unfold atI at h ⊢
  rw [r.len]
  cases e : ixN ds.length i with
  | none => rw [e] at h; cases h
  | some j => rw [e] at h; exact r.get h
theorem d_ix (ha : EE X M0 H0 a ta) (hb : EE X M0 H0 b tb) (hs : PlainIx b := by exact fun _ _ => rfl) : EE X M0 H0 (.Subscript a b pos) (dOp rIxD ta tb) := by
  refine pe_imp (pe_ix ix_seq ha hb hs) fun σ H Q h => tOp_l (fun x y M H Q' Q u v rm ru rv q hq => ?_) h
  unfold rIxD at q
  split at q
  · obtain ⟨d, h1, q⟩ := q
    obtain ⟨p, xs, rfl, hp, r⟩ := Rep.lst_iff.mp ru
    obtain ⟨w, e, rw'⟩ := r.at h1
    rw [Rep.int_iff] at rv
    exact .inl ⟨p, xs, _, w, rfl, rv, hp.sq, e, hq _ M _ _ q .refl rm rw'⟩
  · obtain ⟨d, h1, q⟩ := q
    obtain ⟨p, xs, rfl, hp, r⟩ := Rep.tup_iff.mp ru
    obtain ⟨w, e, rw'⟩ := r.at h1
    rw [Rep.int_iff] at rv
    exact .inr (.inl ⟨p, xs, _, w, rfl, rv, hp.sq, e, hq _ M _ _ q .refl rm rw'⟩)
  · rename_i ns i
    obtain ⟨n, h1, q⟩ := q
    obtain ⟨p, rfl, hp⟩ := Rep.scr_iff.mp ru
    rw [Rep.int_iff] at rv
    refine .inl ⟨p, _, _, .int n, rfl, rv, hp.sq, ?_, hq _ M _ _ q .refl rm (Rep.int_iff.mpr rfl)⟩
    unfold atI at h1 ⊢
    rw [List.length_map]
    cases e : ixN ns.length i with
    | none => rw [e] at h1; cases h1
    | some j =>
      rw [e] at h1
      show (ns.map V.int)[j]? = _
      rw [List.getElem?_map]
      have h1 : ns[j]? = some n := h1
      rw [h1]; rfl
  · obtain ⟨hz, c, h1, q⟩ := q
    rw [Rep.int_iff] at rv
    rw [Rep.str_iff] at ru
    exact .inr (.inr ⟨_, _, c, ru, rv, hz, h1, hq _ M _ _ q .refl rm (Rep.str_iff.mpr rfl)⟩)
  · obtain ⟨xs, d, hm, h1, q⟩ := q
    rw [Rep.ref_iff] at ru
    rw [Rep.int_iff] at rv
    obtain ⟨vs, e, r⟩ := rm.o _ _ hm
    obtain ⟨w, e2, rw'⟩ := r.at h1
    exact .inl ⟨_, vs, _, w, ru, rv, SqL.of e, e2, hq _ M _ _ q .refl rm rw'⟩
  · exact q.elim
/-! ### slices -/
abbrev DO := DS → Mp → (Option Int → Mp → Prop) → Prop
def lO (K : PySem.W.Frag) (M0 : Wd) (H0 : Hp) (t : DO) : TO := fun σ H Q => ∃ ds M Q', Le M0 H0 M H ∧ RelM K M H ∧ RelS K M H σ ds ∧ t ds M.m Q' ∧ ∀ b M' H', Q' b M'.m → Le M H M' H' → RelM K M' H' → Q b H'
abbrev EO (X : Cx) (M0 : Wd) (H0 : Hp) (e : Option Expr) (t : DO) : Prop := PO X e (lO X.K M0 H0 t)
def dPart (t : DE) : DO := fun ds M Q => t ds M fun x M1 => match x with | .int i => Q (some i) M1 | _ => False
def dNoPart : DO := fun _ M Q => Q none M
theorem po_imp {e : Option Expr} {t t' : TO} (h : PO X e t) (i : ∀ σ H Q, t' σ H Q → t σ H Q) : PO X e t' := ⟨fun pins s σ H Q I q => h.run pins s σ H Q I (i σ H Q q)⟩
theorem do_none : EO X M0 H0 none dNoPart := po_imp po_none fun σ H Q ⟨ds, M, Q', le, rm, rs, h, hq⟩ => hq _ M _ h .refl rm
theorem do_some (h : EE X M0 H0 e te) : EO X M0 H0 (some e) (dPart te) := by
  refine po_imp (po_some h) fun σ H Q ⟨ds, M, Q', le, rm, rs, h, hq⟩ => ?_
  refine ⟨ds, M, _, le, rm, rs, h, fun d M' v H' q l rm' r' => ?_⟩
  cases d with
  | int i => rw [Rep.int_iff] at r'; exact ⟨i, r', hq _ _ _ q l rm'⟩
  | _ => exact q.elim
def cutD {α : Type} (xs : List α) (lo hi : Option Int) : List α := (xs.drop (HT.sIx xs.length 0 lo)).take (HT.sIx xs.length xs.length hi - HT.sIx xs.length 0 lo)
theorem Reps.cut {vs : List V} {ds : List D} (r : Reps K M H vs ds) (lo hi : Option Int) : Reps K M H (cutV vs lo hi) (cutD ds lo hi) := by
  unfold cutV cutD
  rw [r.len]
  exact (r.drop _).take _
def dSl (te : DE) (tl th : DO) : DE := fun ds M Q => te ds M fun x M1 => tl ds M1 fun lo M2 => th ds M2 fun hi M3 => match x with
  | .lst xs => Q (.lst (cutD xs lo hi)) M3
  | .tup xs => Q (.tup (cutD xs lo hi)) M3
  | .str z => z.length ≤ sizeLine ∧ Q (.str (cutS z lo hi)) M3
  | _ => False
theorem SlR.or {r1 r2 : V → Option Int → Option Int → Hp → VK → Prop} (h1 : SlR X r1) (h2 : SlR X r2) : SlR X (fun x lo hi H Q => r1 x lo hi H Q ∨ r2 x lo hi H Q) := by
  intro pins s σ H x v vl vu lo hi sl Q I rx hs pl pu h
  rcases h with h | h
  · exact h1 pins s σ H x v vl vu lo hi sl Q I rx hs pl pu h
  · exact h2 pins s σ H x v vl vu lo hi sl Q I rx hs pl pu h
theorem d_sl {lo hi : Option Expr} {p2 : Pos} {tl th : DO} (he : EE X M0 H0 e te) (hl : EO X M0 H0 lo tl) (hh : EO X M0 H0 hi th) : EE X M0 H0 (.Subscript e (.Slice lo hi none p2) pos) (dSl te tl th) := by
  refine pe_imp (pe_slice (SlR.or sl_list (SlR.or sl_tupA sl_str)) he hl hh) fun σ H Q ⟨ds, M, Q', le, rm, rs, h, hq⟩ => ?_
  refine ⟨ds, M, _, le, rm, rs, h, fun d M1 v H1 q l1 rm1 r1 => ?_⟩
  refine ⟨ds, M1, _, le.trans l1, rm1, rs.mono l1.w, q, fun o1 M2 H2 q l2 rm2 => ?_⟩
  refine ⟨ds, M2, _, (le.trans l1).trans l2, rm2, rs.mono (l1.trans l2).w, q, fun o2 M3 H3 q l3 rm3 => ?_⟩
  have r3 := r1.mono (l2.trans l3).w
  have L := (l1.trans l2).trans l3
  cases d with
  | lst xs =>
    obtain ⟨p, vs, rfl, hp, r⟩ := Rep.lst_iff.mp r3
    exact .inl ⟨p, vs, rfl, hp.sq, fun n hn => hq _ M3 _ _ q (L.trans (.new hn)) (rm3.new hn) (.lstN rm3 hn (r.cut _ _))⟩
  | tup xs =>
    obtain ⟨p, vs, rfl, hp, r⟩ := Rep.tup_iff.mp r3
    refine .inr (.inl ⟨p, vs, rfl, hp.sq, fun hw => ?_, fun hw n hn => hq _ M3 _ _ q (L.trans (.new hn)) (rm3.new hn) (.tupN rm3 hn (r.cut _ _))⟩)
    refine hq _ M3 _ _ q L rm3 ?_
    have e : cutD xs o1 o2 = xs := by
      unfold cutD
      rw [← r.len, hw.1, hw.2, List.drop_zero, r.len, Nat.sub_zero, List.take_length]
    rw [e]; exact r3
  | str z =>
    rw [Rep.str_iff] at r3
    exact .inr (.inr ⟨z, r3, q.1, hq _ M3 _ _ q.2 L rm3 (Rep.str_iff.mpr rfl)⟩)
  | _ => exact q.elim
end
end Lt
namespace Lt
open PySem PySem.Spec PyProof.Rows L2

section
variable {X : Cx} {M0 : Wd} {H0 : Hp} {a b e : Expr} {es : List Expr} {ta tb tc te : DE} {t u : DT} {ts : DA} {pos : Pos} {st : Stmt} {rest : List Stmt} {tS uS : DSt}
variable {K : PySem.W.Frag} {M W : Wd} {H : Hp}

/-! ### statements -/
def sNext : DSt := fun D ds M => D.nx ds M
def sSeq (t u : DSt) : DSt := fun D ds M => t { D with nx := u D } ds M
theorem ss_nil : EB X M0 H0 [] sNext := pss_imp pss_nil fun D σ H ⟨ds, M, D', le, rm, rs, h, hq⟩ => hq.nx _ M _ _ h .refl rm rs
theorem ss_cons (h1 : ES X M0 H0 st tS) (h2 : EB X M0 H0 rest uS) : EB X M0 H0 (st :: rest) (sSeq tS uS) := by
  refine pss_imp (pss_cons h1 h2) fun D σ H ⟨ds, M, D', le, rm, rs, h, hq⟩ => ?_
  refine ⟨ds, M, { D' with nx := uS D' }, le, rm, rs, h, ⟨fun ds' M' σ' H' q l rm' rs' => ?_, hq.rt, hq.bk, hq.ct⟩⟩
  exact ⟨ds', M', D', le.trans l, rm', rs', q, hq.mono l⟩
theorem ss_one (h1 : ES X M0 H0 st tS) : EB X M0 H0 [st] tS := pss_one h1
def sBreak : DSt := fun D ds M => D.bk ds M
def sCont : DSt := fun D ds M => D.ct ds M
theorem s_pass : ES X M0 H0 (.Pass pos) sNext := ps_imp ps_pass fun D σ H ⟨ds, M, D', le, rm, rs, h, hq⟩ => hq.nx _ M _ _ h .refl rm rs
theorem s_break : ES X M0 H0 (.Break pos) sBreak := ps_imp ps_break fun D σ H ⟨ds, M, D', le, rm, rs, h, hq⟩ => hq.bk _ M _ _ h .refl rm rs
theorem s_cont : ES X M0 H0 (.Continue pos) sCont := ps_imp ps_continue fun D σ H ⟨ds, M, D', le, rm, rs, h, hq⟩ => hq.ct _ M _ _ h .refl rm rs
theorem s_doc {x j pos'} : ES X M0 H0 (.Expr (.Constant (.str x) j pos) pos') sNext := ps_imp ps_doc fun D σ H ⟨ds, M, D', le, rm, rs, h, hq⟩ => hq.nx _ M _ _ h .refl rm rs
def sNever : DSt := fun _ _ _ => False
theorem s_never : ES X M0 H0 st sNever := ps_imp ps_never fun D σ H ⟨ds, M, D', le, rm, rs, h, hq⟩ => h.elim
theorem ss_never : EB X M0 H0 rest sNever := pss_imp pss_never fun D σ H ⟨ds, M, D', le, rm, rs, h, hq⟩ => h.elim
def sDrop (te : DE) : DSt := fun D ds M => te ds M fun _ M1 => D.nx ds M1
theorem s_expr (he : EE X M0 H0 e te) (hs : swapsWith e none pos.line X.env = pure false := by rfl) : ES X M0 H0 (.Expr e pos) (sDrop te) := by
  refine ps_imp (ps_expr he hs) fun D σ H ⟨ds, M, D', le, rm, rs, h, hq⟩ => ?_
  exact ⟨ds, M, _, le, rm, rs, h, fun d M' v H' q l rm' r' => hq.nx _ M' _ _ q l rm' (rs.mono l.w)⟩
def sRet (te : DE) : DSt := fun D ds M => te ds M D.rt
theorem s_ret (he : EE X M0 H0 e te) : ES X M0 H0 (.Return (some e) pos) (sRet te) := by
  refine ps_imp (ps_ret he) fun D σ H ⟨ds, M, D', le, rm, rs, h, hq⟩ => ?_
  exact ⟨ds, M, _, le, rm, rs, h, fun d M' v H' q l rm' r' => hq.rt _ M' _ _ q l rm' r'⟩
def sRetN : DSt := fun D _ M => D.rt .non M
theorem s_retN : ES X M0 H0 (.Return none pos) sRetN := ps_imp ps_retN fun D σ H ⟨ds, M, D', le, rm, rs, h, hq⟩ => hq.rt _ M _ _ h .refl rm (Rep.non_iff.mpr rfl)
def sIf (c : DT) (t u : DSt) : DSt := fun D ds M => c ds M fun b M1 => if b = true then t D ds M1 else u D ds M1
theorem s_if {c : Expr} {sa sb : List Stmt} {tc : DT} (hc : ET X M0 H0 c tc) (ha : EB X M0 H0 sa tS) (hb : EB X M0 H0 sb uS) : ES X M0 H0 (.If c sa sb pos) (sIf tc tS uS) := by
  refine ps_imp (ps_if hc ha hb) fun D σ H ⟨ds, M, D', le, rm, rs, h, hq⟩ => ?_
  refine ⟨ds, M, _, le, rm, rs, h, fun c M1 H1 q l rm1 => ?_⟩
  cases c with
  | true => exact iteT ⟨ds, M1, D', le.trans l, rm1, rs.mono l.w, uT q, hq.mono l⟩
  | false => exact iteF ⟨ds, M1, D', le.trans l, rm1, rs.mono l.w, uF q, hq.mono l⟩
/-- x = e -/
def sSet (i : Nat) (te : DE) : DSt := fun D ds M => te ds M fun d M1 => D.nx (ds.set i (some d)) M1
theorem s_set {i : Nat} {x : Str} {pos' : Pos} (hN : X.N.Nodup) (hi : X.N[i]? = some x) (hx : Loc X.env.scope x) (he : EE X M0 H0 e te) (hs : swapsWith e (some (.Name x pos')) pos.line X.env = pure false := by rfl) (hf : X.fn x = true ∨ X.env.scope.names.lookup x = some .local := by first | exact .inl rfl | exact .inr rfl | assumption) :
    ES X M0 H0 (.Assign [.Name x pos'] e pos) (sSet i te) := by
  refine ps_imp (ps_set hN hi hx he hs hf) fun D σ H ⟨ds, M, D', le, rm, rs, h, hq⟩ => ?_
  exact ⟨ds, M, _, le, rm, rs, h, fun d M' v H' q l rm' r' => hq.nx _ M' _ _ q l rm' ((rs.mono l.w).set i r')⟩
/-! ### targets -/
inductive Tg where
  | one (i : Nat)
  | many (is : List Nat)
  | nest (gs : List (Sum Nat (List Nat)))
def gNames : List Nat → TGs
  | [] => gNil
  | i :: r => gCons (gName i) (gNames r)
def gEl (K : PySem.W.Frag) : Sum Nat (List Nat) → TG
  | .inl i => gName i
  | .inr is => gTup K is.length (gNames is)
def gNest (K : PySem.W.Frag) : List (Sum Nat (List Nat)) → TGs
  | [] => gNil
  | g :: r => gCons (gEl K g) (gNest K r)
def hTg (K : PySem.W.Frag) : Tg → TG
  | .one i => gName i
  | .many is => fun v σ H Q => gTup K is.length (gNames is) v σ H Q ∨ gLst K is.length (gNames is) v σ H Q
  | .nest gs => gTup K gs.length (gNest K gs)
def setAll : List Nat → List D → DS → DS
  | i :: is, d :: r, ds => setAll is r (ds.set i (some d))
  | _, _, ds => ds
/-- each item to its target -/
def dEls : List (Sum Nat (List Nat)) → List D → DS → (DS → Prop) → Prop
  | .inl i :: gs, x :: xs, ds, k => dEls gs xs (ds.set i (some x)) k
  | .inr is :: gs, .tup ys :: xs, ds, k => ys.length = is.length ∧ dEls gs xs (setAll is ys ds) k
  | [], [], ds, k => k ds
  | _, _, _, _ => False
def dTg (g : Tg) (x : D) (ds : DS) (k : DS → Prop) : Prop := match g with
  | .one i => k (ds.set i (some x))
  | .many is => match x with
    | .tup xs => xs.length = is.length ∧ k (setAll is xs ds)
    | .lst xs => xs.length = is.length ∧ k (setAll is xs ds)
    | _ => False
  | .nest gs => match x with
    | .tup xs => dEls gs xs ds k
    | _ => False
def elSlots : List (Sum Nat (List Nat)) → List Nat
  | [] => []
  | .inl i :: r => i :: elSlots r
  | .inr is :: r => is ++ elSlots r
def Tg.slots : Tg → List Nat
  | .one i => [i]
  | .many is => is
  | .nest gs => elSlots gs
theorem wipe_set {σ : L2.St} {i : Nat} {v : Option V} : ∀ {vs : List Nat}, i ∈ vs → wipe (σ.set i v) vs = wipe σ vs
  | [], h => nomatch h
  | j :: vs, h => by
    unfold wipe
    by_cases hi : i ∈ vs
    · rw [wipe_set hi]
    · have e : i = j := by
        rcases List.mem_cons.mp h with h | h
        · exact h
        · exact absurd h hi
      subst e
      have : ∀ (vs : List Nat), i ∉ vs → wipe (σ.set i v) vs = (wipe σ vs).set i v := by
        intro vs
        induction vs with
        | nil => intro _; rfl
        | cons k vs ih =>
          intro hk
          unfold wipe
          rw [ih fun z => hk (List.mem_cons_of_mem _ z)]
          exact List.set_comm _ _ (fun z => hk (by rw [z]; exact List.mem_cons_self))
      rw [this vs hi, List.set_set]
theorem gNames_ok {Q : L2.St → Hp → Prop} : ∀ {is : List Nat} {vs : List V} {xs : List D} {σ : L2.St} {ds : DS}, xs.length = is.length → Reps K M H vs xs → RelS K M H σ ds →
    (∀ σ', RelS K M H σ' (setAll is xs ds) → (∀ own : List Nat, (∀ i ∈ is, i ∈ own) → wipe σ' own = wipe σ own) → Q σ' H) → gNames is vs σ H Q
  | [], vs, xs, σ, ds, hl, r, rs, h => by
    have e : xs = [] := List.length_eq_zero_iff.mp hl
    subst e
    have e2 : vs = [] := List.length_eq_zero_iff.mp r.len
    exact ⟨e2, h σ rs fun _ _ => rfl⟩
  | i :: is, vs, [], σ, ds, hl, _, _, _ => by simp at hl
  | i :: is, [], x :: xs, σ, ds, hl, r, _, _ => by unfold Reps at r; exact r.elim
  | i :: is, v :: vs, x :: xs, σ, ds, hl, r, rs, h => by
    unfold Reps at r
    refine ⟨v, vs, rfl, ?_⟩
    refine gNames_ok (is := is) (by simpa using hl) r.2 (rs.set i r.1) fun σ' rs' hw => h σ' rs' fun own ho => ?_
    rw [hw own fun j hj => ho j (List.mem_cons_of_mem _ hj), wipe_set (ho i List.mem_cons_self)]
theorem gNest_ok {Q : L2.St → Hp → Prop} {k : DS → Prop} : ∀ {gs : List (Sum Nat (List Nat))} {vs : List V} {xs : List D} {σ : L2.St} {ds : DS}, Reps K M H vs xs → RelS K M H σ ds → dEls gs xs ds k →
    (∀ σ' ds', k ds' → RelS K M H σ' ds' → (∀ own : List Nat, (∀ i ∈ elSlots gs, i ∈ own) → wipe σ' own = wipe σ own) → Q σ' H) → xs.length = gs.length ∧ gNest K gs vs σ H Q
  | [], vs, [], σ, ds, r, rs, h, q => by
    have e2 : vs = [] := List.length_eq_zero_iff.mp r.len
    exact ⟨rfl, e2, q σ ds h rs fun _ _ => rfl⟩
  | [], vs, x :: xs, σ, ds, r, rs, h, q => (show False from h).elim
  | .inl i :: gs, vs, [], σ, ds, r, rs, h, q => (show False from h).elim
  | .inr is :: gs, vs, [], σ, ds, r, rs, h, q => (show False from h).elim
  | _ :: gs, [], x :: xs, σ, ds, r, rs, h, q => by unfold Reps at r; exact r.elim
  | .inl i :: gs, v :: vs, x :: xs, σ, ds, r, rs, h, q => by
    unfold Reps at r
    have h : dEls gs xs (ds.set i (some x)) k := h
    obtain ⟨e, g⟩ := gNest_ok (gs := gs) r.2 (rs.set i r.1) h fun σ' ds' hk rs' hw => q σ' ds' hk rs' fun own ho => by
      rw [hw own fun j hj => ho j (by unfold elSlots; exact List.mem_cons_of_mem _ hj), wipe_set (ho i (by unfold elSlots; exact List.mem_cons_self))]
    exact ⟨by rw [List.length_cons, List.length_cons, e], v, vs, rfl, g⟩
  | .inr is :: gs, v :: vs, x :: xs, σ, ds, r, rs, h, q => by
    unfold Reps at r
    cases x with
    | tup ys =>
      obtain ⟨hl, h⟩ : ys.length = is.length ∧ dEls gs xs (setAll is ys ds) k := h
      obtain ⟨a, us, rfl, ha, ry⟩ := Rep.tup_iff.mp r.1
      have key : ∀ {σ' : L2.St}, RelS K M H σ' (setAll is ys ds) → (∀ own : List Nat, (∀ i ∈ is, i ∈ own) → wipe σ' own = wipe σ own) → xs.length = gs.length ∧ gNest K gs vs σ' H Q := fun {σ'} rs' hw =>
        gNest_ok (gs := gs) r.2 rs' h fun σ2 ds2 hk rs2 hw2 => q σ2 ds2 hk rs2 fun own ho => by
          rw [hw2 own fun j hj => ho j (by unfold elSlots; exact List.mem_append_right _ hj), hw own fun j hj => ho j (by unfold elSlots; exact List.mem_append_left _ hj)]
      have g := gNames_ok (Q := fun σ' H' => (xs.length = gs.length) ∧ gNest K gs vs σ' H' Q) hl ry rs fun σ' rs' hw => key rs' hw
      refine ⟨?_, .ref a, vs, rfl, a, us, rfl, ha.sq, ry.len.trans hl, ?_⟩
      · have : ∀ {is : List Nat} {us : List V} {σ : L2.St}, gNames is us σ H (fun σ' H' => (xs.length = gs.length) ∧ gNest K gs vs σ' H' Q) → xs.length = gs.length := by
          intro is
          induction is with
          | nil => intro us σ h; exact h.2.1
          | cons i is ih => intro us σ h; obtain ⟨v, r, _, h⟩ := h; exact ih h
        rw [List.length_cons, List.length_cons, this g]
      · have : ∀ {is : List Nat} {us : List V} {σ : L2.St}, gNames is us σ H (fun σ' H' => (xs.length = gs.length) ∧ gNest K gs vs σ' H' Q) → gNames is us σ H (fun σ' H' => gNest K gs vs σ' H' Q) := by
          intro is
          induction is with
          | nil => intro us σ h; exact ⟨h.1, h.2.2⟩
          | cons i is ih => intro us σ h; obtain ⟨v, r, e, h⟩ := h; exact ⟨v, r, e, ih h⟩
        exact this g
    | _ => exact (show False from h).elim
theorem hTg_ok {g : Tg} {v : V} {x : D} {σ : L2.St} {ds : DS} {k : DS → Prop} {Q : L2.St → Hp → Prop} (r : Rep K M H v x) (rs : RelS K M H σ ds) (h : dTg g x ds k)
    (hq : ∀ σ' ds', k ds' → RelS K M H σ' ds' → (∀ own : List Nat, (∀ i ∈ g.slots, i ∈ own) → wipe σ' own = wipe σ own) → Q σ' H) : hTg K g v σ H Q := by
  cases g with
  | one i => exact hq _ _ h (rs.set i r) fun own ho => wipe_set (ho i (by simp [Tg.slots]))
  | many is =>
    cases x with
    | tup xs =>
      obtain ⟨a, vs, e, ha, r⟩ := Rep.tup_iff.mp r
      obtain ⟨hl, h⟩ := h
      exact .inl ⟨a, vs, e, ha.sq, r.len.trans hl, gNames_ok hl r rs fun σ' rs' hw => hq σ' _ h rs' hw⟩
    | lst xs =>
      obtain ⟨a, vs, e, ha, r⟩ := Rep.lst_iff.mp r
      obtain ⟨hl, h⟩ := h
      exact .inr ⟨a, vs, e, ha.sq, r.len.trans hl, gNames_ok hl r rs fun σ' rs' hw => hq σ' _ h rs' hw⟩
    | _ => exact h.elim
  | nest gs =>
    cases x with
    | tup xs =>
      obtain ⟨a, vs, e, ha, r⟩ := Rep.tup_iff.mp r
      obtain ⟨hl, g⟩ := gNest_ok r rs h fun σ' ds' hk rs' hw => hq σ' ds' hk rs' hw
      exact ⟨a, vs, e, ha.sq, r.len.trans hl, g⟩
    | _ => exact h.elim
abbrev EG (X : Cx) (tg : Expr) (g : Tg) : Prop := PG X tg (hTg X.K g)
theorem g_one {i : Nat} {x : Str} (hN : X.N.Nodup) (hi : X.N[i]? = some x) (hx : Loc X.env.scope x) (hf : X.fn x = true ∨ X.env.scope.names.lookup x = some .local := by first | exact .inl rfl | exact .inr rfl | assumption) : EG X (.Name x pos) (.one i) := pg_name hN hi hx hf
theorem g_many {es : List Expr} {k : Nat} {is : List Nat} (hc : X.calm = true) (h : PGs X es (gNames is)) (hn : (assignEach es X.env).length = is.length := by rfl) (hst : (assignEach es X.env).findIdx? (·.1) = none := by rfl) : EG X (.Tuple es k pos) (.many is) := ⟨fun pins s σ H v u Q I r hw => hw.elim (fun hw => (pg_tup hc h hn hst).run pins s σ H v u Q I r hw) fun hw => (pg_lst hc h hn hst).run pins s σ H v u Q I r hw⟩
theorem g_nest {es : List Expr} {k : Nat} {gs : List (Sum Nat (List Nat))} (hc : X.calm = true) (h : PGs X es (gNest X.K gs)) (hn : (assignEach es X.env).length = gs.length := by rfl) (hst : (assignEach es X.env).findIdx? (·.1) = none := by rfl) : EG X (.Tuple es k pos) (.nest gs) := pg_tup hc h hn hst
theorem g_sub {es : List Expr} {k : Nat} {is : List Nat} (hc : X.calm = true) (h : PGs X es (gNames is)) (hn : (assignEach es X.env).length = is.length := by rfl) (hst : (assignEach es X.env).findIdx? (·.1) = none := by rfl) : PG X (.Tuple es k pos) (gEl X.K (.inr is)) := pg_tup hc h hn hst
/-- a, b, .. = e -/
def sAsg (te : DE) (g : Tg) : DSt := fun D ds M => te ds M fun d M1 => dTg g d ds fun ds' => D.nx ds' M1
theorem s_asg {tg : Expr} {g : Tg} (he : EE X M0 H0 e te) (hg : EG X tg g) (hs : swapsWithSole [tg] e pos.line X.env = pure false := by rfl) (hw : swappedStores [tg] e X.env = pure none := by rfl)
    (h1 : (assignEach [tg] X.env).map (·.2) = [assign tg X.env] := by rfl) : ES X M0 H0 (.Assign [tg] e pos) (sAsg te g) := by
  refine ps_imp (ps_asg he hg hs hw h1) fun D σ H ⟨ds, M, D', le, rm, rs, h, hq⟩ => ?_
  exact ⟨ds, M, _, le, rm, rs, h, fun d M' v H' q l rm' r' => hTg_ok r' (rs.mono l.w) q fun σ' ds' k rs' _ => hq.nx _ M' _ _ k l rm' rs'⟩
/-- a, b = e1, e2 -/
def sPar (i j : Nat) (ta : DA) : DSt := fun D ds M => ta ds M fun xs M1 => match xs with | [x, y] => D.nx ((ds.set i (some x)).set j (some y)) M1 | _ => False
theorem s_par {i j : Nat} {x y : Str} {px py pt : Pos} {kt k2 pt2} (hc : X.calm = true) (hN : X.N.Nodup) (hi : X.N[i]? = some x) (hj : X.N[j]? = some y) (hij : i ≠ j)
    (hx : X.env.scope.names.lookup x = some .local) (hy : X.env.scope.names.lookup y = some .local) (ha : EA X M0 H0 [a, b] ts)
    (hw : swappedStores [.Tuple [.Name x px, .Name y py] kt pt] (.Tuple [a, b] k2 pt2) X.env = pure (some [x, y]))
    (hs : swapsWithSole [.Tuple [.Name x px, .Name y py] kt pt] (.Tuple [a, b] k2 pt2) pos.line X.env = pure false := by rfl) :
    ES X M0 H0 (.Assign [.Tuple [.Name x px, .Name y py] kt pt] (.Tuple [a, b] k2 pt2) pos) (sPar i j ts) := by
  refine ps_imp (ps_par hc hN hi hj hij hx hy ha hw hs) fun D σ H ⟨ds, M, D', le, rm, rs, h, hq⟩ => ?_
  refine ⟨ds, M, _, le, rm, rs, h, fun xs M' vs H' q l rm' r' => ?_⟩
  split at q
  · rename_i x y
    match vs, r' with
    | [v, w], r' =>
      unfold Reps at r'
      obtain ⟨r1, r2⟩ := r'
      unfold Reps at r2
      exact ⟨v, w, rfl, hq.nx _ M' _ _ q l rm' (((rs.mono l.w).set i r1).set j r2.1)⟩
    | [], r' => unfold Reps at r'; exact r'.elim
    | [_], r' => unfold Reps at r'; exact (by have := r'.2; unfold Reps at this; exact this.elim)
    | _ :: _ :: _ :: _, r' => exact (by have := r'.len; simp at this)
  · exact q.elim
def sPar3 (i j k : Nat) (ta : DA) : DSt := fun D ds M => ta ds M fun xs M1 => match xs with | [x, y, z] => D.nx (((ds.set i (some x)).set j (some y)).set k (some z)) M1 | _ => False
/-- x op= e -/
abbrev DIp := D → D → Mp → DK → Prop
def sAug (i : Nat) (te : DE) (r : DIp) : DSt := fun D ds M => match ds[i]? with
  | some (some x) => te ds M fun y M1 => r x y M1 fun z M2 => D.nx (ds.set i (some z)) M2
  | _ => False
def IpD (X : Cx) (op : Operator) (r : DIp) : Prop := ∃ rv : TIp, PIp X op rv ∧ RvOk X.K rv r
theorem s_aug {i : Nat} {x : Str} {op : Operator} {r : DIp} {pos' : Pos} (hN : X.N.Nodup) (hi : X.N[i]? = some x) (hx : Loc X.env.scope x) (he : EE X M0 H0 e te) (ho : IpD X op r) (hf : X.fn x = true ∨ X.env.scope.names.lookup x = some .local := by first | exact .inl rfl | exact .inr rfl | assumption) :
    ES X M0 H0 (.AugAssign (.Name x pos') op e pos) (sAug i te r) := by
  obtain ⟨rv, ho, hr⟩ := ho
  refine ps_imp (ps_aug hN hi hx he ho hf) fun D σ H ⟨ds, M, D', le, rm, rs, h, hq⟩ => ?_
  unfold sAug at h
  split at h
  · rename_i x e
    obtain ⟨v, e1, r1⟩ := rs.get e
    refine ⟨v, e1, ds, M, _, le, rm, rs, h, fun d M' w H' q l rm' r' => ?_⟩
    exact hr _ _ M' H' _ _ _ _ rm' (r1.mono l.w) r' q fun z M2 w2 H2 q2 l2 rm2 r2 => hq.nx _ M2 _ _ q2 (l.trans l2) rm2 ((rs.mono (l.trans l2).w).set i r2)
  · exact h.elim
theorem ip_of {op : Operator} {rv : R2} {r : DIp} (ho : OpR X (inplaceOp op) rv) (hr : RvOk X.K rv r) : IpD X op r := ⟨rv, fun pins s σ H x y v u Q I rx ry h => ho pins s σ H x y v u Q I rx ry h, hr⟩
/-- int += int, str += str, our list += a list -/
def rIAdd : DIp := fun x y M Q => match x, y with
  | .int i, .int j => Q (.int (i + j)) M
  | .str i, .str j => i.length + j.length ≤ sizeLine ∧ Q (.str (i ++ j)) M
  | .ref a, .lst ys => ∃ xs, M a = some (.lst xs) ∧ xs.length + ys.length ≤ sizeLine ∧ Q (.ref a) (mup M a (.lst (xs ++ ys)))
  | _, _ => False
def rISub : DIp := fun x y M Q => match x, y with
  | .int i, .int j => Q (.int (i - j)) M
  | _, _ => False
theorem PIp.or {op : Operator} {r1 r2 : TIp} (h1 : PIp X op r1) (h2 : PIp X op r2) : PIp X op (fun u v H Q => r1 u v H Q ∨ r2 u v H Q) :=
  fun pins s σ H x y v u Q I rx ry h => h.elim (fun h => h1 pins s σ H x y v u Q I rx ry h) fun h => h2 pins s σ H x y v u Q I rx ry h
theorem i_add : IpD X .Add rIAdd := by
  have hs : PIp X .Add (fun x y H Q => ∃ i j, x = .str i ∧ y = .str j ∧ i.length + j.length ≤ sizeLine ∧ Q (.str (i ++ j)) H) := fun pins s σ H x y v u Q I rx ry h => iop_add_str pins s σ H x y v u Q I rx ry h
  have hl : PIp X .Add rExt2 := fun pins s σ H x y v u Q I rx ry h => iop_ext pins s σ H x y v u Q I rx ry h
  refine ⟨_, PIp.or ip_add (PIp.or hs hl), fun x y M H Q' Q u v rm ru rv q hq => ?_⟩
  unfold rIAdd at q
  split at q
  · rw [Rep.int_iff] at ru rv
    exact .inl ⟨_, _, ru, rv, hq _ M _ _ q .refl rm (Rep.int_iff.mpr rfl)⟩
  · rw [Rep.str_iff] at ru rv
    exact .inr (.inl ⟨_, _, ru, rv, q.1, hq _ M _ _ q.2 .refl rm (Rep.str_iff.mpr rfl)⟩)
  · rename_i a ys
    obtain ⟨xs, hm, hz, q⟩ := q
    rw [Rep.ref_iff] at ru
    obtain ⟨b, zs, rfl, hb, rb⟩ := Rep.lst_iff.mp rv
    obtain ⟨vs, e, ra⟩ := rm.o _ _ hm
    refine .inr (.inr ⟨a, b, vs, zs, ru, rfl, e, hb.2.2, by rw [ra.len, rb.len]; exact hz, ?_⟩)
    have l := Le.put (o := .lst (vs ++ zs)) (mo := .lst (xs ++ ys)) (H := H) hm
    exact hq _ ⟨mup M.m a (.lst (xs ++ ys)), M.s⟩ _ _ q l (rm.put hm ⟨_, upd_same, (ra.append rb).mono l.w⟩) (Rep.ref_iff.mpr rfl)
  · exact q.elim
theorem i_sub : IpD X .Sub rISub := by
  refine ⟨_, ip_sub, fun x y M H Q' Q u v rm ru rv q hq => ?_⟩
  unfold rISub at q
  split at q
  · rw [Rep.int_iff] at ru rv
    exact ⟨_, _, ru, rv, hq _ M _ _ q .refl rm (Rep.int_iff.mpr rfl)⟩
  · exact q.elim
/-- xs[i] = e, xs a list of ours -/
def sPutL (to ti te : DE) : DSt := fun D ds M => te ds M fun d M1 => to ds M1 fun o M2 => ti ds M2 fun i M3 => match o, i with
  | .ref a, .int k => ∃ xs j, M3 a = some (.lst xs) ∧ ixN xs.length k = some j ∧ D.nx ds (mup M3 a (.lst (xs.set j d)))
  | _, _ => False
theorem s_putL {o i : Expr} {to ti : DE} {p1 : Pos} (he : EE X M0 H0 e te) (ho : EE X M0 H0 o to) (hi : EE X M0 H0 i ti)
    (ha : ∀ v, assign (.Subscript o i p1) X.env v = (do
      let ov ← holding [v] (eval o X.env)
      let iv ← holding [v, ov] (eval i X.env)
      standAt p1
      holding [v, ov, iv] (setItem ov iv v)
      release [v, ov, iv] []) := by intro _; rfl)
    (hs : swapsWithSole [.Subscript o i p1] e pos.line X.env = pure false := by rfl) (hw : swappedStores [.Subscript o i p1] e X.env = pure none := by rfl)
    (h1 : (assignEach [.Subscript o i p1] X.env).map (·.2) = [assign (.Subscript o i p1) X.env] := by rfl) : ES X M0 H0 (.Assign [.Subscript o i p1] e pos) (sPutL to ti te) := by
  refine ps_imp (ps_asg he (pg_sub ho hi set_list ha) hs hw h1) fun D σ H ⟨ds, M, D', le, rm, rs, h, hq⟩ => ?_
  refine ⟨ds, M, _, le, rm, rs, h, fun d M1 v H1 q l1 rm1 r1 => ?_⟩
  refine ⟨ds, M1, _, le.trans l1, rm1, rs.mono l1.w, q, fun o M2 vo H2 q l2 rm2 r2 => ?_⟩
  refine ⟨ds, M2, _, le.trans (l1.trans l2), rm2, rs.mono (l1.trans l2).w, q, fun i M3 vi H3 q l3 rm3 r3 => ?_⟩
  cases o with
  | ref a =>
    cases i with
    | int k =>
      obtain ⟨xs, j, hm, hj, q⟩ := q
      rw [Rep.ref_iff] at r2
      rw [Rep.int_iff] at r3
      obtain ⟨vs, ev, ra⟩ := rm3.o _ _ hm
      refine ⟨a, vs, k, j, r2, r3, ev, by rw [ra.len]; exact hj, ?_⟩
      have l := Le.put (o := .lst (vs.set j v)) (mo := .lst (xs.set j d)) (H := H3) hm
      have L := (l1.trans l2).trans l3
      exact hq.nx _ ⟨mup M3.m a (.lst (xs.set j d)), M3.s⟩ _ _ q (L.trans l) (rm3.put hm ⟨_, upd_same, (ra.set j (r1.mono (l2.trans l3).w)).mono l.w⟩) ((rs.mono L.w).mono l.w)
    | _ => exact q.elim
  | _ => exact q.elim
theorem set_self {α : Type} {x : α} : ∀ {l : List α} {i : Nat}, l[i]? = some x → l.set i x = l
  | [], _, h => by simp at h
  | y :: l, 0, h => by
    have : y = x := by simpa using h
    rw [this]; rfl
  | y :: l, i + 1, h => by
    have := set_self (l := l) (i := i) (x := x) (by simpa using h)
    show y :: l.set i x = _
    rw [this]
/-- a list of ours is from here on never changed -/
def sFrz (i : Nat) (t : DSt) : DSt := fun D ds M => match ds[i]? with
  | some (some (.ref a)) => ∃ xs, M a = some (.lst xs) ∧ t D (ds.set i (some (.lst xs))) (mrm M a)
  | _ => False
theorem ss_frz {sts : List Stmt} (i : Nat) (h : EB X M0 H0 sts tS) : EB X M0 H0 sts (sFrz i tS) := by
  refine pss_imp h fun D σ H ⟨ds, M, D', le, rm, rs, h, hq⟩ => ?_
  unfold sFrz at h
  split at h
  · rename_i a e
    obtain ⟨xs, hm, h⟩ := h
    obtain ⟨v, e1, r⟩ := rs.get e
    rw [Rep.ref_iff] at r
    subst r
    have rs' := (rs.mono (Le.rm (a := a)).w).set i (.frozen rm hm)
    rw [set_self e1] at rs'
    exact ⟨_, ⟨mrm M.m a, M.s⟩, D', le.trans .rm, rm.rm, rs', h, hq.mono .rm⟩
  · exact h.elim
end
end Lt
namespace Lt
open PySem PySem.Spec PyProof.Rows L2

section
variable {X : Cx} {M0 : Wd} {H0 : Hp} {a b c e : Expr} {es : List Expr} {ta tb tc te : DE} {t u : DT} {ts : DA} {pos : Pos} {st : Stmt} {rest : List Stmt} {tS uS : DSt}
variable {K : PySem.W.Frag} {M W : Wd} {H : Hp}

/-! ### what is walked -/
abbrev DI := DS → Mp → (List D → Mp → Prop) → Prop
def Walks (K : PySem.W.Frag) (M : Wd) (H : Hp) (items : List D) (J : It) : Prop := ∀ M1 H1, Lw M H M1 H1 → RelM K M1 H1 → ∀ i : Nat,
  (∀ d, items[i]? = some d → J.go i H1 ∧ ∀ x H2, J.yld i H1 x H2 → Le M1 H1 M1 H2 ∧ RelM K M1 H2 ∧ Rep K M1 H2 x d) ∧ (items.length ≤ i → J.stop i H1)
def lI (K : PySem.W.Frag) (M0 : Wd) (H0 : Hp) (t : DI) : TI := fun σ H R => ∃ ds M Q', Le M0 H0 M H ∧ RelM K M H ∧ RelS K M H σ ds ∧ t ds M.m Q' ∧ ∀ items M' H' J, Q' items M'.m → Le M H M' H' → RelM K M' H' → Walks K M' H' items J → R J H'
abbrev EI (X : Cx) (M0 : Wd) (H0 : Hp) (tg e : Expr) (t : DI) : Prop := PI X tg e (lI X.K M0 H0 t)
theorem pi_imp {tg : Expr} {t t' : TI} (h : PI X tg e t) (i : ∀ σ H Q, t' σ H Q → t σ H Q) : PI X tg e t' := ⟨fun pins s σ H Q I q => h.run pins s σ H Q I (i σ H Q q)⟩
def strD (z : Str) : List D := z.cps.toList.map fun c => .str ⟨#[c]⟩
/-- a list, a tuple, a text, the script -/
def iSeq (te : DE) : DI := fun ds M Q => te ds M fun x M1 => match x with
  | .lst xs => Q xs M1
  | .tup xs => Q xs M1
  | .str z => Q (strD z) M1
  | .scr ns => Q (ns.map D.int) M1
  | _ => False
theorem walks_list {a : Addr} {vs : List V} {xs : List D} (h : ∀ M1 H1, Lw M H M1 H1 → SqL K H1 a vs) (u : ∀ M1 H1 ys, Lw M H M1 H1 → SqL K H1 a ys → True) (r : Reps K M H vs xs) : Walks K M H xs (Itl K a) := fun M1 H1 l rm i => by
  refine ⟨fun d hd => ?_, fun hi => ⟨vs, h M1 H1 l, by rw [r.len]; exact hi⟩⟩
  obtain ⟨v, e, rv⟩ := r.get hd
  refine ⟨⟨vs, v, h M1 H1 l, e⟩, fun x H2 y => ?_⟩
  obtain ⟨eH, y⟩ := y
  subst eH
  have e2 := y vs (h M1 _ l)
  rw [e] at e2; cases e2
  exact ⟨.refl, rm, rv.mono l⟩
theorem walks_tup {a : Addr} {vs : List V} {xs : List D} (h : ∀ M1 H1, Lw M H M1 H1 → SqT K H1 a vs) (r : Reps K M H vs xs) : Walks K M H xs (Itt K a) := fun M1 H1 l rm i => by
  refine ⟨fun d hd => ?_, fun hi => ⟨vs, h M1 H1 l, by rw [r.len]; exact hi⟩⟩
  obtain ⟨v, e, rv⟩ := r.get hd
  refine ⟨⟨vs, v, h M1 H1 l, e⟩, fun x H2 y => ?_⟩
  obtain ⟨eH, y⟩ := y
  subst eH
  have e2 := y vs (h M1 _ l)
  rw [e] at e2; cases e2
  exact ⟨.refl, rm, rv.mono l⟩
theorem walks_str {z : Str} : Walks K M H (strD z) (Its z) := fun M1 H1 l rm i => by
  have el : (strD z).length = z.cps.size := by simp [strD]
  refine ⟨fun d hd => ?_, fun hi => by rw [el] at hi; exact hi⟩
  have hi : i < z.cps.size := by
    have := (List.getElem?_eq_some_iff.mp hd).1
    rw [el] at this; exact this
  refine ⟨hi, fun x H2 y => ?_⟩
  obtain ⟨rfl, c, ec, rfl⟩ := y
  refine ⟨.refl, rm, ?_⟩
  have : (strD z)[i]? = some (.str ⟨#[c]⟩) := by
    simp only [strD, List.getElem?_map, Array.getElem?_toList, ec, Option.map_some]
  rw [this] at hd; cases hd
  exact Rep.str_iff.mpr rfl
theorem i_seq {tg : Expr} (he : EE X M0 H0 e te) : EI X M0 H0 tg e (iSeq te) := by
  refine ⟨fun pins s σ H R I h => ?_⟩
  obtain ⟨ds, M, Q', le, rm, rs, h, hq⟩ := h
  refine thn (he.run pins s σ H (fun x H1 => ∃ d M', Le M H M' H1 ∧ RelM X.K M' H1 ∧ Rep X.K M' H1 x d ∧ (match d with | .lst xs => Q' xs M'.m | .tup xs => Q' xs M'.m | .str z => Q' (strD z) M'.m | .scr ns => Q' (ns.map D.int) M'.m | _ => False)) I
    ⟨ds, M, _, le, rm, rs, h, fun d M' v H' q l rm' r' => ⟨d, M', l, rm', r', q⟩⟩) fun v s1 ⟨x, H1, I1, r1, d, M', l, rm', r', q⟩ => ?_
  cases d with
  | lst xs =>
    obtain ⟨a, vs, rfl, ha, r⟩ := Rep.lst_iff.mp r'
    obtain rfl : v = Value.ref a := r1
    obtain ⟨its, rv, p, hz⟩ := I1.list (ha.sq (K := X.K))
    refine wpAny_pyIter_list p.isList (pi_one (tk := s1.toks) I1 _ (turn_list a _) ⟨_, Heap.get?_push_size _ rfl, rfl, rfl⟩ (hq xs M' H1 _ q l rm' (walks_list (fun M1 H1 l => (ha.mono l).sq) (fun _ _ _ _ _ => trivial) r)))
  | tup xs =>
    obtain ⟨a, vs, rfl, ha, r⟩ := Rep.tup_iff.mp r'
    obtain rfl : v = Value.ref a := r1
    obtain ⟨its, rv, p, hz⟩ := I1.tuple ha.sq
    refine wpAny_pyIter_tuple (show s1.heap.IsTuple a its.toArray from p) (pi_one (tk := s1.toks) I1 _ (turn_tuple a _) ⟨_, Heap.get?_push_size _ rfl, rfl, rfl⟩ (hq xs M' H1 _ q l rm' (walks_tup (fun M1 H1 l => (ha.mono l).sq) r)))
  | str z =>
    rw [Rep.str_iff] at r'
    subst r'
    obtain ⟨t, rfl⟩ := r1
    have q' := hq _ M' H1 _ q l rm' walks_str
    cases hz : z.cps.all (· < 128)
    · exact wpAny_pyIter_wide hz (pi_one (tk := s1.toks) I1 _ (turn_str _ z t "str_iterator" (.inr rfl)) ⟨_, Heap.get?_push_size _ rfl, rfl, rfl⟩ q')
    · exact wpAny_pyIter_ascii hz (pi_one (tk := s1.toks) I1 _ (turn_str _ z t "str_ascii_iterator" (.inl rfl)) ⟨_, Heap.get?_push_size _ rfl, rfl, rfl⟩ q')
  | scr ns =>
    obtain ⟨a, rfl, ha⟩ := Rep.scr_iff.mp r'
    obtain rfl : v = Value.ref a := r1
    obtain ⟨its, rv, p, hz⟩ := I1.list ha.sq
    refine wpAny_pyIter_list p.isList (pi_one (tk := s1.toks) I1 _ (turn_list a _) ⟨_, Heap.get?_push_size _ rfl, rfl, rfl⟩ (hq _ M' H1 _ q l rm' (walks_list (fun M1 H1 l => (ha.mono l).sq) (fun _ _ _ _ _ => trivial) (Reps.map V.int D.int (fun _ => Rep.int_iff.mpr rfl) ns))))
  | _ => exact q.elim
def rangeD (lo : Int) (n : Nat) : List D := (List.range n).map fun (i : Nat) => .int (lo + (i : Int))
theorem walks_range {lo : Int} {n : Nat} : Walks K M H (rangeD lo n) (Itr lo n) := fun M1 H1 l rm i => by
  refine ⟨fun d hd => ?_, fun hi => by
    have hi : n ≤ i := by simpa [rangeD] using hi
    exact hi⟩
  have hi : i < n := by simpa [rangeD] using (List.getElem?_eq_some_iff.mp hd).1
  refine ⟨hi, fun x H2 y => ?_⟩
  obtain ⟨rfl, rfl⟩ := y
  have : (rangeD lo n)[i]? = some (.int (lo + i)) := by simp [rangeD, hi]
  rw [this] at hd; cases hd
  exact ⟨.refl, rm, Rep.int_iff.mpr rfl⟩
def iRange1 (ta : DE) : DI := fun ds M Q => ta ds M fun x M1 => match x with | .int j => j < 2 ^ 62 ∧ -(2 ^ 62) ≤ j ∧ Q (rangeD 0 j.toNat) M1 | _ => False
theorem i_range1 {tg : Expr} {p : Pos} (hg : Gl X "range") (hm : X.mg "range" = none) (ha : EE X M0 H0 a ta) (hs : starEach [a] X.env = [(false, eval a X.env)] := by rfl) : EI X M0 H0 tg (.Call (.Name "range" p) [a] [] pos) (iRange1 ta) := by
  refine pi_imp (pi_range1 hg hm (pa_cons ha pa_nil hs) hs) fun σ H R ⟨ds, M, Q', le, rm, rs, h, hq⟩ => ?_
  refine ⟨ds, M, _, le, rm, rs, h, fun d M1 v H1 q l rm1 r1 => ?_⟩
  cases d with
  | int j =>
    rw [Rep.int_iff] at r1
    subst r1
    exact ⟨j, rfl, q.2.1, q.1, hq _ M1 _ _ q.2.2 l rm1 walks_range⟩
  | _ => exact q.elim
def iRange2 (ta tb : DE) : DI := fun ds M Q => ta ds M fun x M1 => tb ds M1 fun y M2 => match x, y with
  | .int i, .int j => (-(2 ^ 62) ≤ i ∧ i < 2 ^ 62 ∧ -(2 ^ 62) ≤ j ∧ j < 2 ^ 62) ∧ Q (rangeD i (j - i).toNat) M2
  | _, _ => False
theorem i_range2 {tg : Expr} {p : Pos} (hg : Gl X "range") (hm : X.mg "range" = none) (ha : EE X M0 H0 a ta) (hb : EE X M0 H0 b tb) (hs : starEach [a, b] X.env = [(false, eval a X.env), (false, eval b X.env)] := by rfl) (hs2 : starEach [b] X.env = [(false, eval b X.env)] := by rfl) :
    EI X M0 H0 tg (.Call (.Name "range" p) [a, b] [] pos) (iRange2 ta tb) := by
  refine pi_imp (pi_range2 hg hm (pa_cons ha (pa_cons hb pa_nil hs2) (by rw [hs, hs2])) hs hs2) fun σ H R ⟨ds, M, Q', le, rm, rs, h, hq⟩ => ?_
  refine ⟨ds, M, _, le, rm, rs, h, fun d M1 v H1 q l rm1 r1 => ?_⟩
  refine ⟨ds, M1, _, le.trans l, rm1, rs.mono l.w, q, fun d2 M2 v2 H2 q l2 rm2 r2 => ?_⟩
  cases d with
  | int i =>
    cases d2 with
    | int j =>
      rw [Rep.int_iff] at r1 r2
      subst r1 r2
      exact ⟨i, j, rfl, q.1, hq _ M2 _ _ q.2 (l.trans l2) rm2 walks_range⟩
    | _ => exact q.elim
  | _ => exact q.elim

/-! ### for -/
def dLoop (g : Tg) (tb : DSt) (D' : DEnds) : List D → DS → Mp → Prop
  | [], ds, M => D'.nx ds M
  | x :: r, ds, M => dTg g x ds fun ds1 => tb { D' with nx := dLoop g tb D' r, ct := dLoop g tb D' r, bk := D'.nx } ds1 M
def sFor (wi : DI) (g : Tg) (tb : DSt) : DSt := fun D' ds M => wi ds M fun items M1 => dLoop g tb D' items ds M1
theorem s_for {tg iter : Expr} {body : List Stmt} {wi : DI} {g : Tg} {tb : DSt} (hp : PassesOwn (model X.prog X.w) X.A X.env X.xe) (hc : X.calm = true) (hi : EI X M0 H0 tg iter wi) (hg : EG X tg g) (hb : EB X M0 H0 body tb)
    (hs : ∀ x, foldedSetIterable iter X.env x = pure x := by intro _; rfl) : ES X M0 H0 (.For tg iter body [] pos) (sFor wi g tb) := by
  refine ps_imp (ps_for hp hc hi hg hb hs) fun D σ H ⟨ds, M, D', le, rm, rs, h, hq⟩ => ?_
  refine ⟨ds, M, _, le, rm, rs, h, fun items M1 H1 J q l rm1 wk => ?_⟩
  refine ⟨fun i m σ H2 => m = items.length - i ∧ i ≤ items.length ∧ ∃ ds2 M2, Le M1 H1 M2 H2 ∧ RelM X.K M2 H2 ∧ RelS X.K M2 H2 σ ds2 ∧ dLoop g tb D' (items.drop i) ds2 M2.m,
    ⟨_, rfl, Nat.zero_le _, ds, M1, .refl, rm1, rs.mono l.w, q⟩, ?_⟩
  rintro i m σ2 H2 ⟨rfl, hi, ds2, M2, l2, rm2, rs2, q2⟩
  obtain ⟨w1, w2⟩ := wk M2 H2 l2.w rm2 i
  by_cases hlt : i < items.length
  · obtain ⟨go, y⟩ := w1 items[i] (List.getElem?_eq_getElem hlt)
    refine .inr ⟨go, fun σ' H' => ∃ ds2 M2, Le M1 H1 M2 H' ∧ RelM X.K M2 H' ∧ RelS X.K M2 H' σ' ds2 ∧ dLoop g tb D' (items.drop (i + 1)) ds2 M2.m, fun σ' H' n => ⟨items.length - (i + 1), by omega, rfl, hlt, n⟩, fun x H' hy => ?_⟩
    obtain ⟨l3, rm3, r3⟩ := y x H' hy
    rw [List.drop_eq_getElem_cons hlt] at q2
    refine hTg_ok r3 (rs2.mono l3.w) q2 fun σ' ds' k rs' _ => ?_
    have L := (l.trans l2).trans l3
    exact ⟨ds', M2, { D' with nx := dLoop g tb D' (items.drop (i + 1)), ct := dLoop g tb D' (items.drop (i + 1)), bk := D'.nx }, le.trans L, rm3, rs', k,
      ⟨fun ds4 M4 σ4 H4 q4 l4 rm4 rs4 => ⟨ds4, M4, (l2.trans l3).trans l4, rm4, rs4, q4⟩, fun d M4 v H4 q4 l4 => hq.rt d M4 v H4 q4 (L.trans l4), fun ds4 M4 σ4 H4 q4 l4 => hq.nx ds4 M4 σ4 H4 q4 (L.trans l4),
        fun ds4 M4 σ4 H4 q4 l4 rm4 rs4 => ⟨ds4, M4, (l2.trans l3).trans l4, rm4, rs4, q4⟩⟩⟩
  · have e : i = items.length := by omega
    subst e
    rw [List.drop_length] at q2
    exact .inl ⟨w2 (Nat.le_refl _), hq.nx _ M2 _ _ q2 (l.trans l2) rm2 rs2⟩
/-- a loop by what holds behind each turn -/
theorem dLoop_inv {g : Tg} {tb : DSt} {D' : DEnds} {items : List D} {ds : DS} {M : Mp} (P : Nat → DS → Mp → Prop) (h0 : P 0 ds M)
    (hs : ∀ i d ds M (N : DS → Mp → Prop), items[i]? = some d → P i ds M → (∀ ds M, P (i + 1) ds M → N ds M) → dTg g d ds fun ds1 => tb { D' with nx := N, ct := N, bk := D'.nx } ds1 M) (hd : ∀ ds M, P items.length ds M → D'.nx ds M) : dLoop g tb D' items ds M := by
  have key : ∀ (l : List D) (i : Nat) (ds : DS) (M : Mp), l = items.drop i → i + l.length = items.length → P i ds M → dLoop g tb D' l ds M := by
    intro l
    induction l with
    | nil => intro i ds M _ e p; rw [List.length_nil, Nat.add_zero] at e; exact hd ds M (e ▸ p)
    | cons d l ih =>
      intro i ds M e el p
      rw [List.length_cons] at el
      have hi : i < items.length := by omega
      rw [List.drop_eq_getElem_cons hi] at e
      injection e with e1 e2
      have := hs i d ds M (dLoop g tb D' l) (by rw [e1]; exact List.getElem?_eq_getElem hi) p fun ds M p => ih (i + 1) ds M e2 (by omega) p
      exact this
  exact key items 0 ds M rfl (by omega) h0
/-! ### while -/
def sWhile (c : DT) (tb : DSt) : DSt := fun D' ds M => ∃ P : Nat → DS → Mp → Prop, (∃ m, P m ds M) ∧ ∀ m ds M, P m ds M →
  c ds M fun b M1 => if b = true then tb { D' with nx := fun ds2 M2 => ∃ m', m' < m ∧ P m' ds2 M2, ct := fun ds2 M2 => ∃ m', m' < m ∧ P m' ds2 M2, bk := D'.nx } ds M1 else D'.nx ds M1
theorem s_while {body : List Stmt} {tc : DT} {tb : DSt} (hp : PassesOwn (model X.prog X.w) X.A X.env X.xe) (hc : ET X M0 H0 c tc) (hb : EB X M0 H0 body tb) : ES X M0 H0 (.While c body [] pos) (sWhile tc tb) := by
  refine ps_imp (ps_while hp hc hb) fun D σ H ⟨ds, M, D', le, rm, rs, h, hq⟩ => ?_
  obtain ⟨P, ⟨m, p0⟩, hs⟩ := h
  refine ⟨fun m σ H1 => ∃ ds1 M1, Le M H M1 H1 ∧ RelM X.K M1 H1 ∧ RelS X.K M1 H1 σ ds1 ∧ P m ds1 M1.m, ⟨m, ds, M, .refl, rm, rs, p0⟩, ?_⟩
  rintro m σ1 H1 ⟨ds1, M1, l1, rm1, rs1, p1⟩
  refine ⟨ds1, M1, _, le.trans l1, rm1, rs1, hs m ds1 M1.m p1, fun b M2 H2 q l2 rm2 => ?_⟩
  cases b with
  | true =>
    refine iteT ⟨fun σ' H' => ∃ m', m' < m ∧ ∃ ds1 M1, Le M H M1 H' ∧ RelM X.K M1 H' ∧ RelS X.K M1 H' σ' ds1 ∧ P m' ds1 M1.m, fun σ' H' n => n, ?_⟩
    exact ⟨ds1, M2, _, le.trans (l1.trans l2), rm2, rs1.mono l2.w, uT q, ⟨fun ds4 M4 σ4 H4 ⟨m', hm, q4⟩ l4 rm4 rs4 => ⟨m', hm, ds4, M4, (l1.trans l2).trans l4, rm4, rs4, q4⟩, fun d M4 v H4 q4 l4 => hq.rt d M4 v H4 q4 ((l1.trans l2).trans l4),
      fun ds4 M4 σ4 H4 q4 l4 => hq.nx ds4 M4 σ4 H4 q4 ((l1.trans l2).trans l4), fun ds4 M4 σ4 H4 ⟨m', hm, q4⟩ l4 rm4 rs4 => ⟨m', hm, ds4, M4, (l1.trans l2).trans l4, rm4, rs4, q4⟩⟩⟩
  | false => exact iteF (hq.nx _ M2 _ _ (uF q) (l1.trans l2) rm2 (rs1.mono l2.w))

/-! ### calls -/
/-- a promise over data -/
abbrev DSp := List D → Mp → DK → XD → Prop
def lSp (K : PySem.W.Frag) (sp : DSp) : Sp := fun vs H Q E => ∃ xs M Q' E', RelM K M H ∧ Reps K M H vs xs ∧ sp xs M.m Q' E' ∧ (∀ d M' v H', Q' d M'.m → Le M H M' H' → RelM K M' H' → Rep K M' H' v d → Q v H') ∧
  ∀ cls pl M' H' dd, E' cls pl M'.m → Le M H M' H' → RelM K M' H' → Pay K M' H' dd pl → E cls dd H'
/-- a def of the text as a callee -/
structure Callee (P : Program) (w : World) (K : PySem.W.Frag) (mg : Str → Option Value) (base : Heap) (x : Str) (k : Nat) (ps : List Str) (sp : DSp) : Prop where
  ex : ∃ f fd, FnOk P w K mg base (CX P w) k f fd ps (lSp K sp) ∧ mg x = some (.ref f) ∧ PySem.W.keepIn K (.ref f) = true ∧ Binds K fd ps []
/-- what is wanted of an exception here -/
def DWish (X : Cx) (M0 : Wd) (H0 : Hp) (E' : XD) : Prop := Takes X (lX X.K M0 H0 E')
theorem wish0 : DWish X M0 H0 XD0 := Takes.imp takes0 fun _ _ _ _ ⟨_, _, h, _⟩ => h.elim
def eX (K : PySem.W.Frag) (M0 : Wd) (H0 : Hp) (E' : XD) : XK := fun cls dd H => lX K M0 H0 E' cls dd [] H
theorem DWish.passes {E' : XD} (tk : DWish X M0 H0 E') : Passes (CX X.prog X.w) X (eX X.K M0 H0 E') := passes_call tk fun _ _ _ _ h => h
def dCall (sp : DSp) (E' : XD) (t : DA) : DE := fun ds M Q => t ds M fun xs M1 => sp xs M1 Q E'
theorem lSp_of {sp : DSp} {E' : XD} {xs : List D} {vs : List V} {M1 : Wd} {H1 : Hp} {Q' : DK} {Q : VK} (le : Le M0 H0 M1 H1) (rm : RelM K M1 H1) (r : Reps K M1 H1 vs xs) (h : sp xs M1.m Q' E')
    (hq : ∀ d M' v H', Q' d M'.m → Le M1 H1 M' H' → RelM K M' H' → Rep K M' H' v d → Q v H') : lSp K sp vs H1 Q (eX K M0 H0 E') :=
  ⟨xs, M1, Q', E', rm, r, h, hq, fun cls pl M' H' dd e l rm' p => ⟨pl, M', e, le.trans l, rm', p⟩⟩
theorem d_call {x : Str} {k : Nat} {ps : List Str} {sp : DSp} {E' : XD} {p : Pos} (C : Callee X.prog X.w X.K X.mg X.base x k ps sp) (hr : Room k X.A) (hg : Gl X x) (tk : DWish X M0 H0 E') (ha : EA X M0 H0 (e :: es) ts)
    (hdb : (x == ("__debug__" : Str)) = false := by decide) (he : starEach (e :: es) X.env = (false, eval e X.env) :: starEach es X.env := by rfl) (hpl : (backTo pos (starEach es X.env)).any (·.1) = false := by rfl) :
    EE X M0 H0 (.Call (.Name x p) (e :: es) [] pos) (dCall sp E' ts) := by
  obtain ⟨f, fd, F, hm, hk, hb⟩ := C.ex
  refine pe_imp (pe_call F hr hg hm hk hb .nil tk.passes ha hdb he hpl) fun σ H Q ⟨ds, M, Q', le, rm, rs, h, hq⟩ => ?_
  refine ⟨ds, M, _, le, rm, rs, h, fun xs M1 vs H1 q l rm1 r1 => ?_⟩
  show lSp X.K sp (vs ++ []) H1 Q _
  rw [List.append_nil]
  exact lSp_of (le.trans l) rm1 r1 q fun d M' v H' q l' => hq d M' v H' q (l.trans l')
theorem d_call0 {x : Str} {k : Nat} {ps : List Str} {sp : DSp} {E' : XD} {p : Pos} (C : Callee X.prog X.w X.K X.mg X.base x k ps sp) (hr : Room k X.A) (hg : Gl X x) (tk : DWish X M0 H0 E')
    (hdb : (x == ("__debug__" : Str)) = false := by decide) : EE X M0 H0 (.Call (.Name x p) [] [] pos) (dCall sp E' dNil) := by
  obtain ⟨f, fd, F, hm, hk, hb⟩ := C.ex
  refine pe_imp (pe_call0 F hr hg hm hk hb .nil tk.passes hdb) fun σ H Q ⟨ds, M, Q', le, rm, rs, h, hq⟩ => ?_
  exact lSp_of (vs := []) le rm .nil h hq
/-- a built-in, by what it says of data -/
def CallD (X : Cx) (f : Value) (r : List D → Mp → DK → Prop) : Prop := ∃ rv : List V → Hp → VK → Prop, CallR X f rv ∧ ∀ xs M H Q' Q vs, RelM X.K M H → Reps X.K M H vs xs → r xs M.m Q' → (∀ d M' v H', Q' d M'.m → Le M H M' H' → RelM X.K M' H' → Rep X.K M' H' v d → Q v H') → rv vs H Q
def dB1 (r : List D → Mp → DK → Prop) (t : DA) : DE := fun ds M Q => t ds M fun xs M1 => r xs M1 Q
theorem d_callB {x : Str} {id : String} {r : List D → Mp → DK → Prop} {p : Pos} (hc : CallD X (.builtin id) r) (hg : Gl X x) (hm : X.mg x = none) (hv : bootBuiltins x = some (.builtin id)) (ha : EA X M0 H0 (e :: es) ts) (hn : x ≠ "__name__" := by decide) (hdb : (x == ("__debug__" : Str)) = false := by decide)
    (he : starEach (e :: es) X.env = (false, eval e X.env) :: starEach es X.env := by rfl) (hpl : (backTo pos (starEach es X.env)).any (·.1) = false := by rfl) : EE X M0 H0 (.Call (.Name x p) (e :: es) [] pos) (dB1 r ts) := by
  obtain ⟨rv, hc, hr⟩ := hc
  refine pe_imp (pe_callB hc hg hm hv ha hn hdb he hpl) fun σ H Q ⟨ds, M, Q', le, rm, rs, h, hq⟩ => ?_
  exact ⟨ds, M, _, le, rm, rs, h, fun xs M1 vs H1 q l rm1 r1 => hr xs M1 H1 Q' Q vs rm1 r1 q fun d M' v H' q l' => hq d M' v H' q (l.trans l')⟩
theorem d_callTy {x : Str} {T : String} {r : List D → Mp → DK → Prop} {p : Pos} (hc : CallD X (.type T) r) (hg : Gl X x) (hm : X.mg x = none) (hv : bootBuiltins x = some (.type T)) (ha : EA X M0 H0 (e :: es) ts) (hn : x ≠ "__name__" := by decide) (hdb : (x == ("__debug__" : Str)) = false := by decide)
    (he : starEach (e :: es) X.env = (false, eval e X.env) :: starEach es X.env := by rfl) (hpl : (backTo pos (starEach es X.env)).any (·.1) = false := by rfl) : EE X M0 H0 (.Call (.Name x p) (e :: es) [] pos) (dB1 r ts) := by
  obtain ⟨rv, hc, hr⟩ := hc
  refine pe_imp (pe_callTy hc hg hm hv ha hn hdb he hpl) fun σ H Q ⟨ds, M, Q', le, rm, rs, h, hq⟩ => ?_
  exact ⟨ds, M, _, le, rm, rs, h, fun xs M1 vs H1 q l rm1 r1 => hr xs M1 H1 Q' Q vs rm1 r1 q fun d M' v H' q l' => hq d M' v H' q (l.trans l')⟩
/-! ### a def's body -/
/-- THE RULE for a def: its body by rules over data; what it may raise goes to E' -/
theorem callee_mk {P : Program} {w : World} {K : PySem.W.Frag} {mg : Str → Option Value} {base : Heap} {x qual : Str} {st : Stmt} {f : Addr} {fd : FuncData} {N ps : List Str} {k : Nat} {sp : DSp} (F : Fun K x qual st f fd) (hmg : mg x = some (.ref f)) (S : FnScope N ps (defScope st))
    (hb : ∀ (kV doc pm : Value) (an : Option Addr) (cdv ct : Value) (us : List Value), us.length = ps.length → bindArgs (PySem.W.fnOf x qual (defArgs st) (defBody st) (defScope st) .none kV doc pm an cdv ct) ⟨us, []⟩ = pure (ps.zip us))
    (len : ∀ xs M Q E, sp xs M Q E → xs.length = ps.length)
    (hbody : ∀ (cdv : Value) (A : Around) (outer : List Env) (s : Shared) (HH : Hp) (EE : XK) (M0 : Wd) (xs : List D) (M : Mp) (Q : DK) (E : XD), Room k (A.deeper (envOfC qual (defScope st) s.heap.objs.size f cdv)) →
      DWish (cxOf (CX P w) P w K mg base N qual (defScope st) f cdv A outer s HH EE) M0 HH E → sp xs M Q E →
      ∃ t, EB (cxOf (CX P w) P w K mg base N qual (defScope st) f cdv A outer s HH EE) M0 HH (defBody st) t ∧ t { nx := fun _ M' => Q .non M', rt := Q } (xs.map some ++ List.replicate (N.length - xs.length) none) M) : Callee P w K mg base x (k + 1) ps sp := by
  refine ⟨f, fd, ?_, hmg, F.kp, F.binds hb⟩
  refine F.okX S (fun vs H Q E ⟨xs, M, Q', E', rm, r, h, _⟩ => by rw [r.len]; exact len _ _ _ _ h) fun cdv A outer s H vs Q E hr ⟨xs, M, Q', E', rm, r, h, hq, he⟩ => ?_
  have tk : DWish (cxOf (CX P w) P w K mg base N qual (defScope st) f cdv A outer s H E) M H E' := Takes.imp (takes_of rfl rfl rfl rfl) fun cls dd σ H' ⟨pl, M', e, l, rm', p⟩ => he cls pl M' H' dd e l rm' p
  obtain ⟨t, ht, hs⟩ := hbody cdv A outer s H E M xs M.m Q' E' hr tk h
  refine ⟨_, ht, ?_⟩
  refine ⟨_, M, _, .refl, rm, ?_, hs, ⟨fun ds' M' σ' H' q l rm' rs => hq _ M' _ _ q l rm' (Rep.non_iff.mpr rfl), fun d M' v H' q l rm' r' => hq _ M' _ _ q l rm' r', fun _ _ _ _ q => q.elim, fun _ _ _ _ q => q.elim⟩⟩
  unfold L2.start
  rw [r.len]
  exact RelS.append r.slots (RelS.repl _)
end
end Lt
namespace Lt
open PySem PySem.Spec PyProof.Rows L2

section
variable {X : Cx} {M0 : Wd} {H0 : Hp} {a b c e : Expr} {es : List Expr} {ta tb tc te : DE} {t u : DT} {ts : DA} {pos : Pos} {st : Stmt} {rest : List Stmt} {tS uS : DSt}
variable {K : PySem.W.Frag} {M W : Wd} {H : Hp}

/-! ### list comprehensions -/
def dwipe (ds : DS) : List Nat → DS
  | [] => ds
  | v :: vs => (dwipe ds vs).set v none
theorem RelS.setN : ∀ {vs : List (Option V)} {ds : List (Option D)} (i : Nat), RelS K M H vs ds → RelS K M H (vs.set i none) (ds.set i none)
  | [], [], _, _ => trivial
  | [], _ :: _, _, h => h.elim
  | _ :: _, [], _, h => h.elim
  | _ :: _, _ :: _, 0, h => ⟨fun e he => (nomatch he), h.2⟩
  | _ :: _, _ :: _, i + 1, h => ⟨h.1, RelS.setN i h.2⟩
theorem RelS.wipe {σ : L2.St} {ds : DS} (r : RelS K M H σ ds) : ∀ vs : List Nat, RelS K M H (L2.wipe σ vs) (dwipe ds vs)
  | [] => r
  | v :: vs => RelS.setN v (RelS.wipe r vs)
def dYes : DT := fun _ M Q => Q true M
def dComp (g : Tg) (tt : DT) (te : DE) (own : List Nat) (ds : DS) : List D → Mp → List D → DK → Prop
  | [], M, acc, Q => Q (.lst acc) M
  | x :: r, M, acc, Q => dTg g x (dwipe ds own) fun ds1 => tt ds1 M fun b M2 => if b = true then te ds1 M2 fun y M3 => acc.length < sizeLine ∧ dComp g tt te own ds r M3 (acc ++ [y]) Q else dComp g tt te own ds r M2 acc Q
def dLc (wi : DI) (g : Tg) (tt : DT) (te : DE) (own : List Nat) : DE := fun ds M Q => wi ds M fun items M1 => dComp g tt te own ds items M1 [] Q
theorem pe_ex {ι : Type} {t : ι → TE} (h : ∀ i, PE X e (t i)) : PE X e (fun σ H Q => ∃ i, t i σ H Q) := ⟨fun pins s σ H Q I ⟨i, q⟩ => (h i).run pins s σ H Q I q⟩
theorem pts_ex {ι : Type} {ifs : List Expr} {t : ι → TT} (h : ∀ i, PTs X ifs (t i)) : PTs X ifs (fun σ H Q => ∃ i, t i σ H Q) := ⟨fun pins s σ H Q I ⟨i, q⟩ => (h i).run pins s σ H Q I q⟩
abbrev ETs (X : Cx) (M0 : Wd) (H0 : Hp) (ifs : List Expr) (t : DT) : Prop := PTs X ifs (lT X.K M0 H0 t)
theorem dts_nil : ETs X M0 H0 [] dYes := ⟨fun pins s σ H Q I ⟨ds, M, Q', le, rm, rs, h, hq⟩ => pts_nil.run pins s σ H Q I (hq true M H h .refl rm)⟩
theorem dts_one (h : ET X M0 H0 c t) : ETs X M0 H0 [c] t := pts_one h
/-- with the new list hidden -/
def hid (S : Addr → Prop) (p : Addr) : Addr → Prop := fun a => S a ∨ a = p
/-- what holds before a turn: M1, H1 when the walk begins, p the new list -/
structure LcAt (K : PySem.W.Frag) (M1 : Wd) (H1 : Hp) (p : Addr) (acc : List D) (m : Mp) (H : Hp) : Prop where
  le : Le M1 H1 ⟨m, M1.s⟩ H
  rm : RelM K ⟨m, hid M1.s p⟩ H
  ac : ∃ vs, H p = some (.lst vs) ∧ Reps K ⟨m, hid M1.s p⟩ H vs acc
theorem LcAt.lw {p : Addr} {acc : List D} {m : Mp} {M1 : Wd} {H1 : Hp} (l : LcAt K M1 H1 p acc m H) (hp : H1 p = none) : Lw M1 H1 ⟨m, hid M1.s p⟩ H := fun a o h1 h2 h3 =>
  ⟨(l.le.1 a o h1 h3).1, fun z => z.elim h2 (ne_of_none h3 hp), (l.le.1 a o h1 h3).2⟩
theorem hid_lw {m : Mp} {S : Addr → Prop} {p : Addr} : Lw ⟨m, hid S p⟩ H ⟨m, S⟩ H := fun a o h1 h2 h3 => ⟨h1, fun z => h2 (.inl z), h3⟩
theorem LcAt.start {M1 : Wd} {H1 : Hp} {p : Addr} (rm : RelM K M1 H1) (hp : H1 p = none) : LcAt K M1 H1 p [] M1.m (upd H1 p (.lst [])) := by
  have lw : Lw M1 H1 ⟨M1.m, hid M1.s p⟩ (upd H1 p (.lst [])) := fun a o h1 h2 h3 => ⟨h1, fun z => z.elim h2 (ne_of_none h3 hp), by rw [upd_ne (ne_of_none h3 hp)]; exact h3⟩
  refine ⟨.new hp, ⟨fun a o e => ?_, fun a z => ?_⟩, [], upd_same, .nil⟩
  · have ne : a ≠ p := fun z => by rw [z] at e; have := rm.free hp; rw [this] at e; cases e
    exact (rm.o a o e).mono lw (upd_ne ne)
  · rcases z with z | rfl
    · obtain ⟨h1, o, e⟩ := rm.h a z
      exact ⟨h1, o, by rw [upd_ne (ne_of_none e hp)]; exact e⟩
    · exact ⟨rm.free hp, _, upd_same⟩
/-- the heap has grown, what is hidden stands -/
theorem LcAt.step {M1 : Wd} {H1 H' : Hp} {p : Addr} {acc : List D} {m : Mp} {M' : Wd} (l : LcAt K M1 H1 p acc m H) (le : Le ⟨m, hid M1.s p⟩ H M' H') (rm : RelM K M' H') : M' = ⟨M'.m, hid M1.s p⟩ ∧ LcAt K M1 H1 p acc M'.m H' := by
  have es : M' = ⟨M'.m, hid M1.s p⟩ := by have := le.2; cases M'; simp at this ⊢; exact this
  refine ⟨es, ⟨⟨fun a o h1 h2 => ?_, rfl⟩, es ▸ rm, ?_⟩⟩
  · obtain ⟨e1, e2⟩ := l.le.1 a o h1 h2
    exact le.1 a o e1 e2
  · obtain ⟨vs, e, r⟩ := l.ac
    have hp := (l.rm.h p (.inr rfl)).1
    exact ⟨vs, (le.1 p _ hp e).2, es ▸ r.mono le.w⟩
theorem LcAt.add {M1 : Wd} {H1 : Hp} {p : Addr} {acc : List D} {m : Mp} {v : V} {y : D} (l : LcAt K M1 H1 p acc m H) (hp : H1 p = none) (r : Rep K ⟨m, hid M1.s p⟩ H v y) : ∃ vs, H p = some (.lst vs) ∧ vs.length = acc.length ∧ LcAt K M1 H1 p (acc ++ [y]) m (upd H p (.lst (vs ++ [v]))) := by
  obtain ⟨vs, e, ra⟩ := l.ac
  have lw : Lw ⟨m, hid M1.s p⟩ H ⟨m, hid M1.s p⟩ (upd H p (.lst (vs ++ [v]))) := fun a o h1 h2 h3 => ⟨h1, h2, by rw [upd_ne fun z => h2 (.inr z)]; exact h3⟩
  refine ⟨vs, e, ra.len, ⟨fun a o h1 h2 => ?_, rfl⟩, ⟨fun a o ea => ?_, fun a z => ?_⟩, _, upd_same, (ra.append (.cons r .nil)).mono lw⟩
  · rw [upd_ne (ne_of_none h2 hp)]
    exact l.le.1 a o h1 h2
  · have ne : a ≠ p := fun z => by rw [z] at ea; have := (l.rm.h p (.inr rfl)).1; rw [this] at ea; cases ea
    exact (l.rm.o a o ea).mono lw (upd_ne ne)
  · obtain ⟨h1, o, e2⟩ := l.rm.h a z
    by_cases ne : a = p
    · subst ne; exact ⟨h1, _, upd_same⟩
    · exact ⟨h1, o, by rw [upd_ne ne]; exact e2⟩
theorem tLc_l {wi : DI} {g : Tg} {tt : DT} {te : DE} {own : List Nat} (ho : ∀ i ∈ g.slots, i ∈ own) {σ : L2.St} {H : Hp} {Q : VK} (h : lE K M0 H0 (dLc wi g tt te own) σ H Q) :
    tLc (lI K M0 H0 wi) (hTg K g) (fun σ H Q => ∃ B : Wd × Hp, lT K B.1 B.2 tt σ H Q) (fun σ H Q => ∃ B : Wd × Hp, lE K B.1 B.2 te σ H Q) own σ H Q := by
  obtain ⟨ds, M, Q', le, rm, rs, h, hq⟩ := h
  refine ⟨ds, M, _, le, rm, rs, h, fun items M1 H1 J q l1 rm1 wk p hp => ?_⟩
  refine ⟨fun i m H2 => m = items.length - i ∧ i ≤ items.length ∧ ∃ acc m2, LcAt K M1 H1 p acc m2 H2 ∧ dComp g tt te own ds (items.drop i) m2 acc Q', ⟨_, rfl, Nat.zero_le _, [], M1.m, .start rm1 hp, q⟩, ?_⟩
  rintro i m H2 ⟨rfl, hi, acc, m2, at2, q2⟩
  obtain ⟨w1, w2⟩ := wk ⟨m2, hid M1.s p⟩ H2 (at2.lw hp) at2.rm i
  by_cases hlt : i < items.length
  · obtain ⟨go, y⟩ := w1 items[i] (List.getElem?_eq_getElem hlt)
    refine .inr ⟨go, fun H' => ∃ acc m2, LcAt K M1 H1 p acc m2 H' ∧ dComp g tt te own ds (items.drop (i + 1)) m2 acc Q', fun H' n => ⟨_, by omega, rfl, hlt, n⟩, fun x H' hy => ?_⟩
    obtain ⟨l3, rm3, r3⟩ := y x H' hy
    obtain ⟨_, at3⟩ := at2.step l3 rm3
    rw [List.drop_eq_getElem_cons hlt] at q2
    have rs3 : RelS K ⟨m2, hid M1.s p⟩ H' σ ds := (rs.mono l1.w).mono (at3.lw hp)
    refine hTg_ok r3 (rs3.wipe own) q2 fun σ' ds' k rs' hw => ⟨?_, ?_⟩
    · rw [hw own ho]
      have ww : ∀ (σ : L2.St) (vs : List Nat), L2.wipe (L2.wipe σ vs) vs = L2.wipe σ vs := by
        intro σ vs
        have aux : ∀ (vs ws : List Nat) (σ : L2.St), (∀ i ∈ vs, i ∈ ws) → L2.wipe (L2.wipe σ vs) ws = L2.wipe σ ws := by
          intro vs
          induction vs with
          | nil => intro ws σ _; rfl
          | cons v vs ih =>
            intro ws σ hs
            show L2.wipe ((L2.wipe σ vs).set v none) ws = _
            rw [wipe_set (hs v List.mem_cons_self)]
            exact ih ws σ fun i hi => hs i (List.mem_cons_of_mem _ hi)
        exact aux vs vs σ fun _ h => h
      exact ww σ own
    · refine ⟨(⟨m2, hid M1.s p⟩, H'), ds', ⟨m2, hid M1.s p⟩, _, .refl, rm3, rs', k, fun b M4 H4 q4 l4 rm4 => ?_⟩
      obtain ⟨e4, at4⟩ := at3.step l4 rm4
      cases b with
      | true =>
        refine iteT ⟨(M4, H4), ds', M4, _, .refl, rm4, rs'.mono l4.w, uT q4, fun y M5 v5 H5 q5 l5 rm5 r5 => ?_⟩
        rw [e4] at l5
        obtain ⟨e5, at5⟩ := at4.step l5 rm5
        rw [e5] at r5
        obtain ⟨vs, ev, el, at6⟩ := at5.add hp r5
        exact ⟨vs, ev, by rw [el]; exact q5.1, _, _, at6, q5.2⟩
      | false => exact iteF ⟨_, _, at4, uF q4⟩
  · have e : i = items.length := by omega
    subst e
    rw [List.drop_length] at q2
    refine .inl ⟨w2 (Nat.le_refl _), ?_⟩
    obtain ⟨vs, ev, r⟩ := at2.ac
    have hpm := (at2.rm.h p (.inr rfl)).1
    refine hq _ ⟨m2, M1.s⟩ _ _ q2 (l1.trans at2.le) ⟨fun a o ea => (at2.rm.o a o ea).mono hid_lw rfl, fun a z => at2.rm.h a (.inl z)⟩ (Rep.lst_iff.mpr ⟨p, vs, rfl, ⟨hpm, rm1.vis hp, ev⟩, r.mono hid_lw⟩)
theorem d_lc {elt tg iter : Expr} {ifs : List Expr} {scope : Scope} {own : List (Str × Nat)} {wi : DI} {g : Tg} {tt : DT} {te : DE} (hc : X.calm = true) (hN : X.N.Nodup) (hi : EI X M0 H0 tg iter wi) (ok : BlkOk X.N X.env.scope scope own)
    (hg : ∀ (s : Shared) (H : Hp) (C : Addr) (cl : List (Str × Addr)) (fp : List Addr), EG (X.blk s H scope (compEnvC scope cl C X.env) fp) tg g)
    (ht : ∀ (M0 : Wd) (H0 : Hp) (s : Shared) (H : Hp) (C : Addr) (cl : List (Str × Addr)) (fp : List Addr), ETs (X.blk s H scope (compEnvC scope cl C X.env) fp) M0 H0 ifs tt)
    (he : ∀ (M0 : Wd) (H0 : Hp) (s : Shared) (H : Hp) (C : Addr) (cl : List (Str × Addr)) (fp : List Addr), EE (X.blk s H scope (compEnvC scope cl C X.env) fp) M0 H0 elt te)
    (ho : ∀ i ∈ g.slots, i ∈ own.map (·.2) := by decide) (hs : ∀ x, foldedSetIterable iter X.env x = pure x := by intro _; rfl) :
    EE X M0 H0 (.ListComp elt [⟨tg, iter, ifs, 0⟩] scope pos) (dLc wi g tt te (own.map (·.2))) :=
  pe_imp (pe_lc (g := hTg X.K g) hc hN hi ok hg (fun s H C cl fp => pts_ex (t := fun B : Wd × Hp => lT X.K B.1 B.2 tt) fun B => ht B.1 B.2 s H C cl fp) (fun s H C cl fp => pe_ex (t := fun B : Wd × Hp => lE X.K B.1 B.2 te) fun B => he B.1 B.2 s H C cl fp) hs) fun σ H Q h => tLc_l ho h
/-- x = [..] -/
theorem s_setLc {i : Nat} {y : Str} {py : Pos} {elt tg iter : Expr} {ifs : List Expr} {scope : Scope} {own : List (Str × Nat)} {spos : Pos} {wi : DI} {g : Tg} {tt : DT} {te : DE} (hc : X.calm = true) (hN : X.N.Nodup) (hy : X.N[i]? = some y) (hyl : X.env.scope.names.lookup y = some .local)
    (hsw : swapsWith (.ListComp elt [⟨tg, iter, ifs, 0⟩] scope pos) (some (.Name y py)) spos.line X.env = pure true) (hi : EI X M0 H0 tg iter wi) (ok : BlkOk X.N X.env.scope scope own)
    (hg : ∀ (s : Shared) (H : Hp) (C : Addr) (cl : List (Str × Addr)) (fp : List Addr), EG (X.blk s H scope (compEnvC scope cl C X.env) fp) tg g)
    (ht : ∀ (M0 : Wd) (H0 : Hp) (s : Shared) (H : Hp) (C : Addr) (cl : List (Str × Addr)) (fp : List Addr), ETs (X.blk s H scope (compEnvC scope cl C X.env) fp) M0 H0 ifs tt)
    (he : ∀ (M0 : Wd) (H0 : Hp) (s : Shared) (H : Hp) (C : Addr) (cl : List (Str × Addr)) (fp : List Addr), EE (X.blk s H scope (compEnvC scope cl C X.env) fp) M0 H0 elt te)
    (ho : ∀ i ∈ g.slots, i ∈ own.map (·.2) := by decide) (hs : ∀ x, foldedSetIterable iter X.env x = pure x := by intro _; rfl) :
    ES X M0 H0 (.Assign [.Name y py] (.ListComp elt [⟨tg, iter, ifs, 0⟩] scope pos) spos) (sSet i (dLc wi g tt te (own.map (·.2)))) := by
  refine ps_imp (ps_setLc (g := hTg X.K g) hc hN hy hyl hsw hi ok hg (fun s H C cl fp => pts_ex (t := fun B : Wd × Hp => lT X.K B.1 B.2 tt) fun B => ht B.1 B.2 s H C cl fp) (fun s H C cl fp => pe_ex (t := fun B : Wd × Hp => lE X.K B.1 B.2 te) fun B => he B.1 B.2 s H C cl fp) hs) fun D σ H ⟨ds, M, D', le, rm, rs, h, hq⟩ => ?_
  exact tLc_l ho ⟨ds, M, _, le, rm, rs, h, fun d M' v H' q l rm' r' => hq.nx _ M' _ _ q l rm' ((rs.mono l.w).set i r')⟩
end
end Lt
namespace Lt
open PySem PySem.Spec PyProof.Rows L2

/-! ### defs of the law: as FnOk, where it is known that no repr is under way -/
structure FnG (P : Program) (w : World) (K : PySem.W.Frag) (mg : Str → Option Value) (base : Heap) (k : Nat) (f : Addr) (fd : FuncData) (ps : List Str) (sp : Sp) : Prop where
  len : ∀ vs H Q E, sp vs H Q E → vs.length = ps.length
  run : ∀ (A : Around) (outer : List Env) (s : Shared) (H : Hp) (args : Args) (us : List Value) (vs : List V) (Q : VK) (E : XK), A.guards = some [] →
    Room k A → Env0 P w K mg base A outer s H → BindsTo s fd args (ps.zip us) → Vals vs us → sp vs H Q E → codeAny (model P w) A (.call (.ref f) args) (CR (CX P w) outer P w H s Q E) s
theorem FnG.of {P : Program} {w : World} {K : PySem.W.Frag} {mg : Str → Option Value} {base : Heap} {k : Nat} {f : Addr} {fd : FuncData} {ps : List Str} {sp : Sp} (F : FnOk P w K mg base (CX P w) k f fd ps sp) : FnG P w K mg base k f fd ps sp :=
  ⟨F.len, fun A outer s H args us vs Q E _ => F.run A outer s H args us vs Q E⟩
section
variable {X : Cx} {M0 : Wd} {H0 : Hp} {a b c e : Expr} {es : List Expr} {ts : DA} {pos : Pos} {k : Nat} {f : Addr} {fd : FuncData} {ps : List Str} {sp : Sp} {E : XK}
theorem runG {pins : List (Addr × Obj)} {σ : L2.St} {H : Hp} {s : Shared} {Q : VK} {us : List Value} {vs : List V} (hgd : X.A.guards = some []) (F : FnG X.prog X.w X.K X.mg X.base k f fd ps sp) (hr : Room k X.A) (hb : Binds X.K fd ps []) (hx : Passes (CX X.prog X.w) X E)
    (I : Inv X pins σ H s) (r : Vals vs us) (h : sp vs H Q E) : wpAny (model X.prog X.w) X.A (call (.ref f) us) (EP X pins σ Q) X.xe s := by
  have hl : us.length = ps.length := r.length.symm.trans (F.len _ _ _ _ h)
  have hbt := hb s us I.kIn (by rw [List.append_nil]; exact hl)
  rw [List.append_nil] at hbt
  refine wpAny_call (codeAny_mono (F.run X.A X.stack s H ⟨us, []⟩ us vs Q E hgd hr I.env0 hbt r h) fun res s' hres => ?_)
  match res, hres with
  | .error e, hres => exact hx pins σ H s e s' I hres
  | .ok (.ret u), hres => exact I.after hres
/-- a def of the law as a callee -/
structure CalleeG (P : Program) (w : World) (K : PySem.W.Frag) (mg : Str → Option Value) (base : Heap) (x : Str) (k : Nat) (ps : List Str) (sp : DSp) : Prop where
  ex : ∃ f fd, FnG P w K mg base k f fd ps (lSp K sp) ∧ mg x = some (.ref f) ∧ PySem.W.keepIn K (.ref f) = true ∧ Binds K fd ps []
theorem d_callG {x : Str} {sp : DSp} {E' : XD} {p : Pos} (C : CalleeG X.prog X.w X.K X.mg X.base x k ps sp) (hr : Room k X.A) (hgd : X.A.guards = some []) (hg : Gl X x) (tk : DWish X M0 H0 E') (ha : EA X M0 H0 (e :: es) ts)
    (hdb : (x == ("__debug__" : Str)) = false := by decide) (he : starEach (e :: es) X.env = (false, eval e X.env) :: starEach es X.env := by rfl) (hpl : (backTo pos (starEach es X.env)).any (·.1) = false := by rfl) :
    EE X M0 H0 (.Call (.Name x p) (e :: es) [] pos) (dCall sp E' ts) := by
  obtain ⟨f, fd, F, hm, hk, hb⟩ := C.ex
  refine ⟨fun pins s σ H Q I ⟨ds, M, Q', le, rm, rs, h, hq⟩ => wpAny_Call_Name_kw (ld_glob I hg hm ?_ hdb)⟩
  have args := ha.run pos pins s σ H (fun vs H1 => lSp X.K sp vs H1 Q (eX X.K M0 H0 E')) I ⟨ds, M, _, le, rm, rs, h, fun xs M1 vs H1 q l rm1 r1 => lSp_of (le.trans l) rm1 r1 q fun d M' v H' q l' => hq d M' v H' q (l.trans l')⟩
  exact PySem.W.callWith_K (h₀ := X.base) I.ok.mod.kin hk (thn args fun us s1 ⟨vs, H1, I1, r, q⟩ => ⟨I1.kIn, runG hgd F hr hb tk.passes I1 r q⟩) he hpl
theorem d_callG0 {x : Str} {sp : DSp} {E' : XD} {p : Pos} (C : CalleeG X.prog X.w X.K X.mg X.base x k ps sp) (hr : Room k X.A) (hgd : X.A.guards = some []) (hg : Gl X x) (tk : DWish X M0 H0 E')
    (hdb : (x == ("__debug__" : Str)) = false := by decide) : EE X M0 H0 (.Call (.Name x p) [] [] pos) (dCall sp E' dNil) := by
  obtain ⟨f, fd, F, hm, hk, hb⟩ := C.ex
  refine ⟨fun pins s σ H Q I ⟨ds, M, Q', le, rm, rs, h, hq⟩ => wpAny_Call_Name_kw (ld_glob I hg hm ?_ hdb)⟩
  exact PySem.W.callWith_K0 I.kIn hk (runG (us := []) (vs := []) hgd F hr hb tk.passes I .nil (lSp_of le rm .nil h hq))
end
section
variable {P : Program} {w : World} {K : PySem.W.Frag} {mg : Str → Option Value} {base : Heap}
/-- a def's body, entered with its parameters -/
theorem fnG_of {k : Nat} {f : Addr} {name qual : Str} {st : Stmt} {fd : FuncData} {N ps : List Str} {sp : Sp} (F : Fun K name qual st f fd) (S : FnScope N ps (defScope st)) (len : ∀ vs H Q E, sp vs H Q E → vs.length = ps.length)
    (hbody : ∀ (cdv : Value) (A : Around) (outer : List Env) (s : Shared) (H : Hp) (vs : List V) (Q : VK) (E : XK), A.guards = some [] → Room k (A.deeper (envOfC qual (defScope st) s.heap.objs.size f cdv)) → sp vs H Q E →
      ∃ t, PSs (cxOf (CX P w) P w K mg base N qual (defScope st) f cdv A outer s H E) (defBody st) t ∧ t { nx := fun _ H' => Q .non H', rt := Q } (L2.start N vs) H) : FnG P w K mg base (k + 1) f fd ps sp := by
  obtain ⟨oc, od, kV, doc, pm, an, cdv, ct, osl, rfl, lk, hcd⟩ := F.ex
  refine ⟨len, fun A outer s H args us vs Q E hgd hr e0 hbt r hsp => ?_⟩
  have up : ∀ b o, base.get? b = some o → s.heap.get? b = some o := fun b o e => (e0.bs b o e).1
  have KX := e0.mod.kin.keeps up
  have lim := e0.mod.nolimit.keeps up
  have hkind : ∀ y ∈ ps.zip us, (defScope st).names.lookup y.1 = some .local ∨ ((defScope st).names.lookup y.1 = some .cell ∧ ((cellsFrom (s.heap.objs.size + 1) (defScope st).names []).lookup y.1).isSome = true) := by
    rintro ⟨n, v⟩ hy
    exact (S.par n (List.of_mem_zip hy).1).imp id fun q => ⟨q, PySem.W.cellsFrom_some _ _ _ (.inl q)⟩
  refine codeAny_call_function hr.depth (KX _ _ lk) rfl S.co S.gen rfl (PySem.W.codeRec_of KX hcd) (hbt _ _ _ _ (wpAny_newFunctionEnv_cells S.kind hkind fun env he s1 x => ?_))
  subst he
  refine ⟨lim.keeps x.toInCall.keep, codeAny_func ?_⟩
  obtain ⟨t, ht, hq⟩ := hbody cdv A outer s H vs Q E hgd (hr.deeper _) hsp
  have I := inv_start (CX := CX P w) (mg := mg) (cd := cdv) (f := f) (E := E) S hr.hd e0 (len _ _ _ _ hsp) r x
  refine wpAny_mono (ht.run [] s1 (L2.start N vs) H _ I hq) (fun fl s' hs => ?_) fun _ _ z => z
  match fl, hs with
  | .ret u, ⟨v, σ', H', J, rv, q⟩ => exact ⟨v, H', J.os, J.bare, J.base, J.hok, rv, q⟩
  | .next, ⟨σ', H', J, q⟩ => exact ⟨V.non, H', J.os, J.bare, J.base, J.hok, rfl, q⟩
  | .brk, ⟨_, _, _, q⟩ => exact q.elim
  | .cont, ⟨_, _, _, q⟩ => exact q.elim
/-- THE RULE for a def of the law -/
theorem fnG_mk {x qual : Str} {st : Stmt} {f : Addr} {fd : FuncData} {N ps : List Str} {k : Nat} {sp : DSp} (F : Fun K x qual st f fd) (S : FnScope N ps (defScope st)) (len : ∀ xs M Q E, sp xs M Q E → xs.length = ps.length)
    (hbody : ∀ (cdv : Value) (A : Around) (outer : List Env) (s : Shared) (HH : Hp) (EE : XK) (M0 : Wd) (xs : List D) (M : Mp) (Q : DK) (E : XD), A.guards = some [] → Room k (A.deeper (envOfC qual (defScope st) s.heap.objs.size f cdv)) →
      DWish (cxOf (CX P w) P w K mg base N qual (defScope st) f cdv A outer s HH EE) M0 HH E → sp xs M Q E →
      ∃ t, EB (cxOf (CX P w) P w K mg base N qual (defScope st) f cdv A outer s HH EE) M0 HH (defBody st) t ∧ t { nx := fun _ M' => Q .non M', rt := Q } (xs.map some ++ List.replicate (N.length - xs.length) none) M) : FnG P w K mg base (k + 1) f fd ps (lSp K sp) := by
  refine fnG_of F S (fun vs H Q E ⟨xs, M, Q', E', rm, r, h, _⟩ => by rw [r.len]; exact len _ _ _ _ h) fun cdv A outer s H vs Q E hgd hr ⟨xs, M, Q', E', rm, r, h, hq, he⟩ => ?_
  have tk : DWish (cxOf (CX P w) P w K mg base N qual (defScope st) f cdv A outer s H E) M H E' := Takes.imp (takes_of rfl rfl rfl rfl) fun cls dd σ H' ⟨pl, M', e, l, rm', p⟩ => he cls pl M' H' dd e l rm' p
  obtain ⟨t, ht, hs⟩ := hbody cdv A outer s H E M xs M.m Q' E' hgd hr tk h
  refine ⟨_, ht, _, M, _, .refl, rm, ?_, hs, ⟨fun ds' M' σ' H' q l rm' rs => hq _ M' _ _ q l rm' (Rep.non_iff.mpr rfl), fun d M' v H' q l rm' r' => hq _ M' _ _ q l rm' r', fun _ _ _ _ q => q.elim, fun _ _ _ _ q => q.elim⟩⟩
  unfold L2.start
  rw [r.len]
  exact RelS.append r.slots (RelS.repl _)
theorem calleeG_mk {x qual : Str} {st : Stmt} {f : Addr} {fd : FuncData} {N ps : List Str} {k : Nat} {sp : DSp} (F : Fun K x qual st f fd) (hmg : mg x = some (.ref f)) (S : FnScope N ps (defScope st))
    (hb : ∀ (kV doc pm : Value) (an : Option Addr) (cdv ct : Value) (us : List Value), us.length = ps.length → bindArgs (PySem.W.fnOf x qual (defArgs st) (defBody st) (defScope st) .none kV doc pm an cdv ct) ⟨us, []⟩ = pure (ps.zip us))
    (len : ∀ xs M Q E, sp xs M Q E → xs.length = ps.length)
    (hbody : ∀ (cdv : Value) (A : Around) (outer : List Env) (s : Shared) (HH : Hp) (EE : XK) (M0 : Wd) (xs : List D) (M : Mp) (Q : DK) (E : XD), A.guards = some [] → Room k (A.deeper (envOfC qual (defScope st) s.heap.objs.size f cdv)) →
      DWish (cxOf (CX P w) P w K mg base N qual (defScope st) f cdv A outer s HH EE) M0 HH E → sp xs M Q E →
      ∃ t, EB (cxOf (CX P w) P w K mg base N qual (defScope st) f cdv A outer s HH EE) M0 HH (defBody st) t ∧ t { nx := fun _ M' => Q .non M', rt := Q } (xs.map some ++ List.replicate (N.length - xs.length) none) M) : CalleeG P w K mg base x (k + 1) ps sp :=
  ⟨f, fd, fnG_mk F S len hbody, hmg, F.kp, F.binds hb⟩
end
/-! ### the end: from the law's promise to what the head wants -/
/-- the law's promise: the script goes in, True comes out -/
def lawSp : DSp := fun xs _ Q _ => ∃ ns : List Int, xs = [.scr ns] ∧ ns.length ≤ 63 ∧ ∀ M', Q (.bl true) M'
theorem lSp_law {K : PySem.W.Frag} {H : Hp} {a : Addr} {ns : List Int} {Q : VK} {E : XK} (hl : ns.length ≤ 63) (hO : Only H) (hS : SqL K H a (ns.map V.int)) (q : ∀ v H', v = .bl true → Q v H') : lSp K lawSp [.ref a] H Q E := by
  refine ⟨[.scr ns], ⟨fun _ => none, fun _ => False⟩, fun d _ => d = .bl true, fun _ _ _ => False, ⟨fun _ _ e => (nomatch e), fun _ z => z.elim⟩, .cons (Rep.scr_iff.mpr ⟨a, rfl, ?_⟩) .nil, ⟨ns, rfl, hl, fun _ => rfl⟩, fun d M' v H' e _ _ r => ?_, fun _ _ _ _ _ e => e.elim⟩
  · rcases hS with (h | ⟨o, h⟩) | h
    · rcases hO a with z | ⟨o, xs, z⟩
      · rw [h] at z; cases z
      · rw [h] at z; cases z
    · exact .inl ⟨rfl, id, o, h⟩
    · exact .inr h
  · subst e
    exact q v H' (Rep.bl_iff.mp r)
theorem hid_of {h : Heap} {H : Hp} {b : Addr} {m : Str → Option Value} (hA : ∀ o es ep, h.get? b = some o → o.data = .dict es ep → H b = none) (x : h.Ns b m) : (hidT h H).Ns b m := by
  obtain ⟨o, es, ep, e, d, r⟩ := x
  exact ⟨o, es, ep, hidT_get e (hA o es ep e d), d, r⟩
/-- the law is called -/
theorem law_enter {P : Program} {w : World} {K : PySem.W.Frag} {mg mb : Str → Option Value} {k : Nat} {fa a : Addr} {fd : FuncData} {x : Str} {s1 : Shared} {vs : List Value} {ns : List Int}
    (KX : K.In s1.heap) (hns : s1.heap.Ns mainGlobals mg) (hb : s1.heap.Ns builtinsNs mb) (hbb : ∀ x : Str, x ≠ "__name__" → mb x = bootBuiltins x) (hlim : s1.heap.NoLimit) (hg : s1.gens = #[])
    (ha : s1.heap.get? a = some { cls := .type "list", data := .seq vs.toArray }) (hi : IntsAre vs ns) (hl : ns.length ≤ 63) (hr : Room k callerA)
    (F : ∀ base : Heap, K.In base → base.Ns mainGlobals mg → FnG P w K mg base k fa fd [x] (lSp K lawSp)) (hbind : ∀ (s : Shared) (u : Value), BindsTo s fd ⟨[u], []⟩ [(x, u)]) :
    codeAny (model P w) callerA (.call (.ref fa) ⟨[.ref a], []⟩) (fun r s' => r = .ok (.ret (.bool true)) ∧ OldK s1.heap s'.heap ∧ s'.os = s1.os ∧ AllBare s'.gens) s1 := by
  have rv := vals_ints hi
  have hz : ns.length ≤ sizeLine := Nat.le_trans hl (by decide)
  suffices core : ∀ H : Hp, Only H → SqL K H a (ns.map V.int) → HOk P w H s1.heap → (∀ b, H b ≠ none → b = a ∧ K.lookup a = none) → codeAny (model P w) callerA (.call (.ref fa) ⟨[.ref a], []⟩)
      (fun r s' => r = .ok (.ret (.bool true)) ∧ OldK s1.heap s'.heap ∧ s'.os = s1.os ∧ AllBare s'.gens) s1 by
    cases hk : K.lookup a with
    | some o =>
      have e := KX a o hk
      rw [ha] at e
      cases e
      exact core (fun _ => none) (fun _ => .inl rfl) (.inr ⟨_, vs.toArray, _, hk, rfl, rfl, rfl, by rw [List.size_toArray, hi.length]; exact hz, by simpa using rv⟩) (fun b u z => (nomatch z)) fun b z => absurd rfl z
    | none =>
      refine core (fun b => if b = a then some (.frz { cls := .type "list", data := .seq vs.toArray } (.lst (ns.map V.int))) else none) (fun b => ?_) (.inl (.inr ⟨{ cls := .type "list", data := .seq vs.toArray }, if_pos rfl⟩)) (fun b u z => ?_) fun b z => ⟨?_, hk⟩
      · by_cases e : b = a
        · exact .inr ⟨_, _, if_pos e⟩
        · exact .inl (if_neg e)
      · dsimp only at z
        split at z
        · rename_i e
          cases z
          subst e
          exact ⟨ha, by rw [List.length_map]; exact hz, vs, _, rv, ha⟩
        · cases z
      · exact Classical.byContradiction fun e => z (if_neg e)
  intro H hO hS hok hA
  have noA : ∀ {b : Addr} (o es ep), s1.heap.get? b = some o → o.data = .dict es ep → H b = none := fun {b} o es ep e d => Classical.byContradiction fun q => by
    rw [(hA b q).1, ha] at e
    cases e
    exact nomatch d
  have hKb : K.In (hidT s1.heap H) := fun b o e => hidT_get (KX b o e) (Classical.byContradiction fun q => by
    obtain ⟨e1, e2⟩ := hA b q
    rw [e1, e2] at e
    cases e)
  have hgl := hid_of noA hns
  have hM : Mod K mg (hidT s1.heap H) := ⟨hKb, hgl, ⟨mb, hid_of noA hb, hbb⟩, let ⟨mc, h1, h2⟩ := hlim; ⟨mc, hid_of noA h1, h2⟩⟩
  have e0 : Env0 P w K mg (hidT s1.heap H) callerA [] s1 H := ⟨rfl, hM, fun b o e => of_hidT e, Nat.le_of_eq (hidT_size _ _), trivial, fun b hb => (nomatch hb), hok, .of_eq hg⟩
  have run := (F _ hKb hgl).run callerA [] s1 H ⟨[.ref a], []⟩ [.ref a] [.ref a] (fun v _ => v = .bl true) (fun _ _ _ => False) rfl hr e0 (hbind s1 (.ref a)) (.cons rfl .nil) (lSp_law hl hO hS fun v _ e => e)
  refine codeAny_mono run fun r s' h => ?_
  match r, h with
  | .error e, h => exact (let ⟨_, _, _, _, _, _, _, _, _, _, _, _, z⟩ := h; z.elim)
  | .ok (.ret u), ⟨v, H', os, bare, un, hok', r', q⟩ =>
    have q : v = .bl true := q
    subst q
    have r' : u = Value.bool true := r'
    subst r'
    refine ⟨rfl, OldK.of_keep fun b o e => ?_, os, bare⟩
    rcases hO b with z | ⟨ob, xs, z⟩
    · exact un.keep b o e z (by simp [frs]) (by simp)
    · obtain ⟨e1, _⟩ := hok b _ z
      obtain ⟨e2, _⟩ := hok' b _ (un.frzs b ob _ z)
      rw [e] at e1; cases e1
      exact e2
/-- what the head leaves, from the law as a callee -/
theorem walkG {l : PySem.W.OpenLaw} {k : Nat} {q : Program} {loose : List Str} {XP : (Str → Option Value) → Heap → Prop} {YP : World → Heap → Prop} {d : DefRec} {K : Params → PySem.W.Frag} {x : Str}
    (hn : l.most = some 63) (hdf : d.params.defaults = []) (hr : Room k callerA) (hY : ∀ (w : World) (h : Heap), YP w h → (K w.params).In h)
    (F : ∀ (w : World) (mg : Str → Option Value) (fa : Addr) (h : Heap), (K w.params).In h → h.Ns mainGlobals mg → mg d.name = some (.ref fa) →
      ∃ fd : FuncData, (∀ (s : Shared) (u : Value), BindsTo s fd ⟨[u], []⟩ [(x, u)]) ∧ ∀ base : Heap, (K w.params).In base → base.Ns mainGlobals mg → FnG l.prog w (K w.params) mg base k fa fd [x] (lSp (K w.params) lawSp)) :
    PySem.W.WalkO q loose XP YP l.row.toRowW d [] (fun f vs => PySem.call f vs) := by
  refine Att.attach_call hn hdf fun w s0 s1 mg mb fa o pm cd doc a vs ns G Y ho hd hcd hmg hobj hints hlen hg => ?_
  have KX := hY w _ Y
  obtain ⟨fd, hb, hF⟩ := F w mg fa _ KX G.T.g hmg
  exact law_enter KX G.T.g G.T.b G.T.builtins G.T.nolimit hg hobj hints hlen hr hF hb
end Lt
namespace Lt
open PySem PySem.Spec PyProof.Rows L2

section
variable {X : Cx} {M0 : Wd} {H0 : Hp} {a b c e o : Expr} {es : List Expr} {ta tb tc te to : DE} {t u : DT} {ts : DA} {pos apos cpos : Pos} {st : Stmt} {rest : List Stmt} {tS uS : DSt}
variable {K : PySem.W.Frag} {M W : Wd} {H : Hp}

/-! ### data as plain data -/
mutual
/-- what a value shows; a list of ours by what it holds now -/
def pd (M : Mp) : D → Option PyData
  | .non => some .none
  | .bl b => some (.bool b)
  | .int i => some (.int i)
  | .str x => some (.str x)
  | .tup ds => (pds M ds).map .tuple
  | .lst ds => (pds M ds).map .list
  | .scr ns => some (.list (ns.map .int))
  | _ => none
def pds (M : Mp) : List D → Option (List PyData)
  | [] => some []
  | d :: ds => (pd M d).bind fun p => (pds M ds).map fun ps => p :: ps
end
mutual
theorem pd_dp {m : Mp} (rm : RelM K M H) (hm : M.m = m) : ∀ {v : V} {d : D} {p : PyData}, Rep K M H v d → pd m d = some p → Dp K H v p
  | v, .non, p, r, h => by rw [Rep.non_iff] at r; unfold pd at h; cases h; subst r; exact .non
  | v, .bl b, p, r, h => by rw [Rep.bl_iff] at r; unfold pd at h; cases h; subst r; exact .bl b
  | v, .int i, p, r, h => by rw [Rep.int_iff] at r; unfold pd at h; cases h; subst r; exact .int i
  | v, .str x, p, r, h => by rw [Rep.str_iff] at r; unfold pd at h; cases h; subst r; exact .str x
  | v, .tup ds, p, r, h => by
    obtain ⟨a, xs, rfl, ha, r⟩ := Rep.tup_iff.mp r
    unfold pd at h
    cases e : pds m ds with
    | none => rw [e] at h; cases h
    | some ps => rw [e] at h; cases h; exact .tup ha.sq (pds_dp rm hm r e)
  | v, .lst ds, p, r, h => by
    obtain ⟨a, xs, rfl, ha, r⟩ := Rep.lst_iff.mp r
    unfold pd at h
    cases e : pds m ds with
    | none => rw [e] at h; cases h
    | some ps => rw [e] at h; cases h; exact .lst ha.sq (pds_dp rm hm r e)
  | v, .scr ns, p, r, h => by
    obtain ⟨a, rfl, ha⟩ := Rep.scr_iff.mp r
    unfold pd at h
    cases h
    refine .lst ha.sq ?_
    clear ha rm r
    induction ns with
    | nil => exact .nil
    | cons n ns ih => exact .cons (.int n) ih
  | v, .ref a, p, r, h => by unfold pd at h; cases h
  | v, .dct _ _, p, r, h => by unfold pd at h; cases h
  | v, .dcl _ _, p, r, h => by unfold pd at h; cases h
  | v, .dn _ _ _, p, r, h => by unfold pd at h; cases h
  | v, .ty _, p, r, h => by unfold pd at h; cases h
theorem pds_dp {m : Mp} (rm : RelM K M H) (hm : M.m = m) : ∀ {vs : List V} {ds : List D} {ps : List PyData}, Reps K M H vs ds → pds m ds = some ps → DpAll K H vs ps
  | [], [], ps, _, h => by unfold pds at h; cases h; exact .nil
  | [], _ :: _, _, r, _ => by unfold Reps at r; exact r.elim
  | _ :: _, [], _, r, _ => by unfold Reps at r; exact r.elim
  | v :: vs, d :: ds, ps, r, h => by
    unfold Reps at r
    unfold pds at h
    cases e : pd m d with
    | none => rw [e] at h; cases h
    | some p =>
      cases e2 : pds m ds with
      | none => rw [e, e2] at h; cases h
      | some qs => rw [e, e2] at h; cases h; exact .cons (pd_dp rm hm r.1 e) (pds_dp rm hm r.2 e2)
end
/-- .. a list of ours too -/
def pdT (M : Mp) : D → Option PyData
  | .ref a => match M a with
    | some (.lst ds) => (pds M ds).map .list
    | _ => none
  | d => pd M d
theorem pdT_dp {v : V} {d : D} {p : PyData} (rm : RelM K M H) (r : Rep K M H v d) (h : pdT M.m d = some p) : Dp K H v p := by
  unfold pdT at h
  split at h
  · rw [Rep.ref_iff] at r
    subst r
    split at h
    · rename_i a ds e
      obtain ⟨vs, eh, r⟩ := rm.o _ _ e
      cases e2 : pds M.m ds with
      | none => rw [e2] at h; cases h
      | some ps => rw [e2] at h; cases h; exact .lst (SqL.of eh) (pds_dp rm rfl r e2)
    · cases h
  · exact pd_dp rm rfl r h
/-! ### ==, != -/
def rEqD (neg : Bool) : DR := fun x y M Q => match x, y with
  | .int i, .int j => Q (.bl (if neg then !decide (i = j) else decide (i = j))) M
  | .str i, .str j => Q (.bl (if neg then !decide (i = j) else decide (i = j))) M
  | x, y => ∃ p q, pdT M x = some p ∧ pdT M y = some q ∧ SeqAt.shaped p = true ∧ SeqAt.shaped q = true ∧ Q (.bl (if neg then !PyData.eqv p q else PyData.eqv p q)) M
theorem o_eq (hu : X.A.units + 64 < cLine) : OpD X (compareOp .Eq) (rEqD false) := by
  refine ⟨_, OpR.or op_eq (op_eqD hu), fun x y M H Q' Q u v rm ru rv q hq => ?_⟩
  unfold rEqD at q
  split at q
  · rw [Rep.int_iff] at ru rv
    subst ru rv
    refine .inl ⟨rfl, hq _ M _ _ q .refl rm (Rep.bl_iff.mpr ?_)⟩
    rename_i i j
    by_cases e : i = j
    · subst e; simp
    · simp [e]
  · rw [Rep.str_iff] at ru rv
    subst ru rv
    refine .inl ⟨rfl, hq _ M _ _ q .refl rm (Rep.bl_iff.mpr ?_)⟩
    rename_i i j
    by_cases e : i = j
    · subst e; simp
    · simp [e]
  · obtain ⟨p, q', e1, e2, s1, s2, q⟩ := q
    exact .inr ⟨p, q', pdT_dp rm ru e1, pdT_dp rm rv e2, s1, s2, hq _ M _ _ q .refl rm (Rep.bl_iff.mpr rfl)⟩
theorem o_ne (hu : X.A.units + 64 < cLine) : OpD X (compareOp .NotEq) (rEqD true) := by
  refine ⟨_, OpR.or op_ne (op_neD hu), fun x y M H Q' Q u v rm ru rv q hq => ?_⟩
  unfold rEqD at q
  split at q
  · rw [Rep.int_iff] at ru rv
    subst ru rv
    refine .inl ⟨rfl, hq _ M _ _ q .refl rm (Rep.bl_iff.mpr ?_)⟩
    rename_i i j
    by_cases e : i = j
    · subst e; simp
    · simp [e]
  · rw [Rep.str_iff] at ru rv
    subst ru rv
    refine .inl ⟨rfl, hq _ M _ _ q .refl rm (Rep.bl_iff.mpr ?_)⟩
    rename_i i j
    by_cases e : i = j
    · subst e; simp
    · simp [e]
  · obtain ⟨p, q', e1, e2, s1, s2, q⟩ := q
    exact .inr ⟨p, q', pdT_dp rm ru e1, pdT_dp rm rv e2, s1, s2, hq _ M _ _ q .refl rm (Rep.bl_iff.mpr rfl)⟩
/-! ### in, not in (flat items, a sign in a text, keys), is None -/
def vS : D → Option V
  | .non => some .non
  | .bl b => some (.bl b)
  | .int i => some (.int i)
  | .str x => some (.str x)
  | _ => none
def vSs : List D → Option (List V)
  | [] => some []
  | d :: ds => (vS d).bind fun v => (vSs ds).map fun vs => v :: vs
theorem vS_rep {v w : V} {d : D} (r : Rep K M H v d) (h : vS d = some w) : v = w ∧ flatV w = true := by
  cases d with
  | non => rw [Rep.non_iff] at r; cases h; exact ⟨r, rfl⟩
  | bl b => rw [Rep.bl_iff] at r; cases h; exact ⟨r, rfl⟩
  | int b => rw [Rep.int_iff] at r; cases h; exact ⟨r, rfl⟩
  | str b => rw [Rep.str_iff] at r; cases h; exact ⟨r, rfl⟩
  | _ => cases h
theorem vSs_rep : ∀ {vs ws : List V} {ds : List D}, Reps K M H vs ds → vSs ds = some ws → vs = ws ∧ ws.all flatV = true
  | [], ws, [], _, h => by unfold vSs at h; cases h; exact ⟨rfl, rfl⟩
  | [], _, _ :: _, r, _ => by unfold Reps at r; exact r.elim
  | _ :: _, _, [], r, _ => by unfold Reps at r; exact r.elim
  | v :: vs, ws, d :: ds, r, h => by
    unfold Reps at r
    unfold vSs at h
    cases e : vS d with
    | none => rw [e] at h; cases h
    | some p =>
      cases e2 : vSs ds with
      | none => rw [e, e2] at h; cases h
      | some qs =>
        rw [e, e2] at h
        cases h
        obtain ⟨h1, f1⟩ := vS_rep r.1 e
        obtain ⟨h2, f2⟩ := vSs_rep r.2 e2
        exact ⟨by rw [h1, h2], by rw [List.all_cons, f1, f2]; rfl⟩
def rInD (neg : Bool) : DR := fun x y M Q => match y with
  | .lst ds => ∃ v ws, vS x = some v ∧ vSs ds = some ws ∧ Q (.bl (if neg then !inV v ws else inV v ws)) M
  | .tup ds => ∃ v ws, vS x = some v ∧ vSs ds = some ws ∧ Q (.bl (if neg then !inV v ws else inV v ws)) M
  | .str z => match x with
    | .str w => ∃ n, w = ⟨#[n]⟩ ∧ Q (.bl (if neg then !decide (n ∈ z.cps.toList) else decide (n ∈ z.cps.toList))) M
    | _ => False
  | _ => False
theorem o_in : OpD X (compareOp .In) (rInD false) := by
  refine ⟨_, OpR.or op_in_seq op_in_sign, fun x y M H Q' Q u v rm ru rv q hq => ?_⟩
  unfold rInD at q
  split at q
  · obtain ⟨w, ws, e1, e2, q⟩ := q
    obtain ⟨p, xs, rfl, hp, r⟩ := Rep.lst_iff.mp rv
    obtain ⟨rfl, f1⟩ := vS_rep ru e1
    obtain ⟨rfl, f2⟩ := vSs_rep r e2
    exact .inl ⟨p, _, rfl, .inl hp.sq, f1, f2, hq _ M _ _ q .refl rm (Rep.bl_iff.mpr rfl)⟩
  · obtain ⟨w, ws, e1, e2, q⟩ := q
    obtain ⟨p, xs, rfl, hp, r⟩ := Rep.tup_iff.mp rv
    obtain ⟨rfl, f1⟩ := vS_rep ru e1
    obtain ⟨rfl, f2⟩ := vSs_rep r e2
    exact .inl ⟨p, _, rfl, .inr hp.sq, f1, f2, hq _ M _ _ q .refl rm (Rep.bl_iff.mpr rfl)⟩
  · split at q
    · obtain ⟨n, rfl, q⟩ := q
      rw [Rep.str_iff] at ru rv
      exact .inr ⟨n, _, ru, rv, hq _ M _ _ q .refl rm (Rep.bl_iff.mpr rfl)⟩
    · exact q.elim
  · exact q.elim
theorem o_notIn : OpD X (compareOp .NotIn) (rInD true) := by
  refine ⟨_, OpR.or op_notIn_seq op_notIn_sign, fun x y M H Q' Q u v rm ru rv q hq => ?_⟩
  unfold rInD at q
  split at q
  · obtain ⟨w, ws, e1, e2, q⟩ := q
    obtain ⟨p, xs, rfl, hp, r⟩ := Rep.lst_iff.mp rv
    obtain ⟨rfl, f1⟩ := vS_rep ru e1
    obtain ⟨rfl, f2⟩ := vSs_rep r e2
    exact .inl ⟨p, _, rfl, .inl hp.sq, f1, f2, hq _ M _ _ q .refl rm (Rep.bl_iff.mpr rfl)⟩
  · obtain ⟨w, ws, e1, e2, q⟩ := q
    obtain ⟨p, xs, rfl, hp, r⟩ := Rep.tup_iff.mp rv
    obtain ⟨rfl, f1⟩ := vS_rep ru e1
    obtain ⟨rfl, f2⟩ := vSs_rep r e2
    exact .inl ⟨p, _, rfl, .inr hp.sq, f1, f2, hq _ M _ _ q .refl rm (Rep.bl_iff.mpr rfl)⟩
  · split at q
    · obtain ⟨n, rfl, q⟩ := q
      rw [Rep.str_iff] at ru rv
      exact .inr ⟨n, _, ru, rv, hq _ M _ _ q .refl rm (Rep.bl_iff.mpr rfl)⟩
    · exact q.elim
  · exact q.elim
def isNon : D → Bool
  | .non => true
  | _ => false
theorem isNon_ok {v : V} {d : D} (r : Rep K M H v d) : decide (v = V.non) = isNon d := by
  cases d with
  | non => rw [Rep.non_iff] at r; subst r; rfl
  | bl b => rw [Rep.bl_iff] at r; subst r; rfl
  | int b => rw [Rep.int_iff] at r; subst r; rfl
  | str b => rw [Rep.str_iff] at r; subst r; rfl
  | ref b => rw [Rep.ref_iff] at r; subst r; rfl
  | ty b => rw [Rep.ty_iff] at r; subst r; rfl
  | tup b => obtain ⟨_, _, rfl, _⟩ := Rep.tup_iff.mp r; rfl
  | lst b => obtain ⟨_, _, rfl, _⟩ := Rep.lst_iff.mp r; rfl
  | scr b => obtain ⟨_, rfl, _⟩ := Rep.scr_iff.mp r; rfl
  | dct b => obtain ⟨_, _, rfl, _⟩ := Rep.dct_iff.mp r; rfl
  | dcl b => obtain ⟨_, _, rfl, _⟩ := Rep.dcl_iff.mp r; rfl
  | dn w b c => obtain ⟨_, _, rfl, _⟩ := Rep.dn_iff.mp r; rfl
def rIsD (neg : Bool) : DR := fun x y M Q => match y with
  | .non => Q (.bl (if neg then !isNon x else isNon x)) M
  | _ => False
theorem o_is : OpD X (compareOp .Is) (rIsD false) := by
  refine ⟨_, op_isN, fun x y M H Q' Q u v rm ru rv q hq => ?_⟩
  unfold rIsD at q
  split at q
  · rw [Rep.non_iff] at rv
    exact ⟨rv, by rw [isNon_ok ru]; exact hq _ M _ _ q .refl rm (Rep.bl_iff.mpr rfl)⟩
  · exact q.elim
theorem o_isNot : OpD X (compareOp .IsNot) (rIsD true) := by
  refine ⟨_, op_notN, fun x y M H Q' Q u v rm ru rv q hq => ?_⟩
  unfold rIsD at q
  split at q
  · rw [Rep.non_iff] at rv
    exact ⟨rv, by rw [isNon_ok ru]; exact hq _ M _ _ q .refl rm (Rep.bl_iff.mpr rfl)⟩
  · exact q.elim
/-- -a -/
def dNeg (te : DE) : DE := fun ds M Q => te ds M fun x M1 => match x with | .int i => Q (.int (-i)) M1 | _ => False
theorem d_neg (h : EE X M0 H0 e te) : EE X M0 H0 (.UnaryOp .USub e pos) (dNeg te) := by
  refine pe_imp (pe_un un_neg h) fun σ H Q ⟨ds, M, Q', le, rm, rs, h, hq⟩ => ?_
  refine ⟨ds, M, _, le, rm, rs, h, fun d M' v H' q l rm' r' => ?_⟩
  cases d with
  | int i => rw [Rep.int_iff] at r'; exact ⟨i, r', hq _ M' _ _ q l rm' (Rep.int_iff.mpr rfl)⟩
  | _ => exact q.elim
/-! ### built-ins -/
theorem rep1 {vs : List V} {x : D} (r : Reps K M H vs [x]) : ∃ v, vs = [v] ∧ Rep K M H v x := by
  match vs, r with
  | [v], r => unfold Reps at r; exact ⟨v, rfl, r.1⟩
  | [], r => unfold Reps at r; exact r.elim
  | _ :: _ :: _, r => exact (by have := r.len; simp at this)
theorem rep2 {vs : List V} {x y : D} (r : Reps K M H vs [x, y]) : ∃ v w, vs = [v, w] ∧ Rep K M H v x ∧ Rep K M H w y := by
  match vs, r with
  | [v, w], r =>
    unfold Reps at r
    obtain ⟨r1, r2⟩ := r
    unfold Reps at r2
    exact ⟨v, w, rfl, r1, r2.1⟩
  | [], r => unfold Reps at r; exact r.elim
  | [_], r => exact (by have := r.len; simp at this)
  | _ :: _ :: _ :: _, r => exact (by have := r.len; simp at this)
def cLen : List D → Mp → DK → Prop := fun xs M Q => match xs with
  | [.str z] => z.length ≤ sizeLine ∧ Q (.int z.length) M
  | [.lst ds] => Q (.int ds.length) M
  | [.tup ds] => Q (.int ds.length) M
  | [.scr ns] => Q (.int ns.length) M
  | [.ref a] => ∃ ds, M a = some (.lst ds) ∧ Q (.int ds.length) M
  | _ => False
theorem c_len : CallD X (.builtin "len") cLen := by
  refine ⟨_, call_len, fun xs M H Q' Q vs rm rr q hq => ?_⟩
  unfold cLen at q
  split at q
  · obtain ⟨v, rfl, r⟩ := rep1 rr
    rw [Rep.str_iff] at r
    subst r
    exact ⟨_, _, rfl, ⟨q.1, rfl⟩, hq _ M _ _ q.2 .refl rm (Rep.int_iff.mpr rfl)⟩
  · obtain ⟨v, rfl, r⟩ := rep1 rr
    obtain ⟨p, ys, rfl, hp, r⟩ := Rep.lst_iff.mp r
    exact ⟨_, _, rfl, .inl ⟨ys, hp.sq, rfl⟩, by rw [r.len]; exact hq _ M _ _ q .refl rm (Rep.int_iff.mpr rfl)⟩
  · obtain ⟨v, rfl, r⟩ := rep1 rr
    obtain ⟨p, ys, rfl, hp, r⟩ := Rep.tup_iff.mp r
    exact ⟨_, _, rfl, .inr ⟨ys, hp.sq, rfl⟩, by rw [r.len]; exact hq _ M _ _ q .refl rm (Rep.int_iff.mpr rfl)⟩
  · obtain ⟨v, rfl, r⟩ := rep1 rr
    obtain ⟨p, rfl, hp⟩ := Rep.scr_iff.mp r
    exact ⟨_, _, rfl, .inl ⟨_, hp.sq, rfl⟩, by rw [List.length_map]; exact hq _ M _ _ q .refl rm (Rep.int_iff.mpr rfl)⟩
  · obtain ⟨v, rfl, r⟩ := rep1 rr
    obtain ⟨ds, em, q⟩ := q
    rw [Rep.ref_iff] at r
    subst r
    obtain ⟨ys, e, r⟩ := rm.o _ _ em
    exact ⟨_, _, rfl, .inl ⟨ys, SqL.of e, rfl⟩, by rw [r.len]; exact hq _ M _ _ q .refl rm (Rep.int_iff.mpr rfl)⟩
  · exact q.elim
def cII (g : Int → Int → Int) : List D → Mp → DK → Prop := fun xs M Q => match xs with | [.int i, .int j] => Q (.int (g i j)) M | _ => False
theorem c_max2 (hc : X.calm = true) : CallD X (.builtin "max") (cII fun i j => if j > i then j else i) := by
  refine ⟨_, call_max2 hc, fun xs M H Q' Q vs rm rr q hq => ?_⟩
  unfold cII at q
  split at q
  · obtain ⟨v, w, rfl, r1, r2⟩ := rep2 rr
    rw [Rep.int_iff] at r1 r2
    subst r1 r2
    exact ⟨_, _, rfl, hq _ M _ _ q .refl rm (Rep.int_iff.mpr rfl)⟩
  · exact q.elim
theorem c_min2 (hc : X.calm = true) : CallD X (.builtin "min") (cII fun i j => if j < i then j else i) := by
  refine ⟨_, call_min2 hc, fun xs M H Q' Q vs rm rr q hq => ?_⟩
  unfold cII at q
  split at q
  · obtain ⟨v, w, rfl, r1, r2⟩ := rep2 rr
    rw [Rep.int_iff] at r1 r2
    subst r1 r2
    exact ⟨_, _, rfl, hq _ M _ _ q .refl rm (Rep.int_iff.mpr rfl)⟩
  · exact q.elim
def cInt : List D → Mp → DK → Prop := fun xs M Q => match xs with
  | [.int i] => Q (.int i) M
  | [.bl k] => Q (.int (if k then 1 else 0)) M
  | [.str z] => ∃ n, PySem.intText? z = some n ∧ z.length ≤ 640 ∧ Q (.int n) M
  | _ => False
theorem callR_or {f : Value} {r r' : List V → Hp → VK → Prop} (h : CallR X f r) (h' : CallR X f r') : CallR X f (fun xs H Q => r xs H Q ∨ r' xs H Q) := by
  intro pins s σ H xs us Q I r hw
  exact hw.elim (fun q => h pins s σ H xs us Q I r q) fun q => h' pins s σ H xs us Q I r q
theorem c_int : CallD X (.type "int") cInt := by
  refine ⟨_, callR_or call_int1 call_int_str, fun xs M H Q' Q vs rm rr q hq => ?_⟩
  unfold cInt at q
  split at q
  · obtain ⟨v, rfl, r⟩ := rep1 rr
    rw [Rep.int_iff] at r
    subst r
    exact .inl (.inl ⟨_, rfl, hq _ M _ _ q .refl rm (Rep.int_iff.mpr rfl)⟩)
  · obtain ⟨v, rfl, r⟩ := rep1 rr
    rw [Rep.bl_iff] at r
    subst r
    exact .inl (.inr ⟨_, rfl, hq _ M _ _ q .refl rm (Rep.int_iff.mpr rfl)⟩)
  · obtain ⟨v, rfl, r⟩ := rep1 rr
    obtain ⟨n, h1, h2, q⟩ := q
    rw [Rep.str_iff] at r
    subst r
    exact .inr ⟨_, n, rfl, h1, h2, hq _ M _ _ q .refl rm (Rep.int_iff.mpr rfl)⟩
  · exact q.elim
/-- str(int), str(text) -/
def cStr : List D → Mp → DK → Prop := fun xs M Q => match xs with
  | [.int i] => i.natAbs.log2 < 1920 ∧ Q (.str (toString i)) M
  | [.str z] => Q (.str z) M
  | _ => False
theorem c_str : CallD X (.type "str") cStr := by
  refine ⟨_, callR_or call_str_int SkE.call_str_str, fun xs M H Q' Q vs rm rr q hq => ?_⟩
  unfold cStr at q
  split at q
  · obtain ⟨v, rfl, r⟩ := rep1 rr
    rw [Rep.int_iff] at r
    subst r
    exact .inl ⟨_, rfl, q.1, hq _ M _ _ q.2 .refl rm (Rep.str_iff.mpr rfl)⟩
  · obtain ⟨v, rfl, r⟩ := rep1 rr
    rw [Rep.str_iff] at r
    subst r
    exact .inr ⟨_, rfl, hq _ M _ _ q .refl rm (Rep.str_iff.mpr rfl)⟩
  · exact q.elim
def cAbs : List D → Mp → DK → Prop := fun xs M Q => match xs with | [.int i] => Q (.int (if i < 0 then -i else i)) M | _ => False
theorem c_abs : CallD X (.builtin "abs") cAbs := by
  refine ⟨_, call_abs, fun xs M H Q' Q vs rm rr q hq => ?_⟩
  unfold cAbs at q
  split at q
  · obtain ⟨v, rfl, r⟩ := rep1 rr
    rw [Rep.int_iff] at r
    subst r
    exact ⟨_, rfl, hq _ M _ _ q .refl rm (Rep.int_iff.mpr rfl)⟩
  · exact q.elim
/-- tuple(list), tuple(tuple); list(..) -/
def cTuple : List D → Mp → DK → Prop := fun xs M Q => match xs with
  | [.lst ds] => Q (.tup ds) M
  | [.tup ds] => Q (.tup ds) M
  | [.ref a] => ∃ ds, M a = some (.lst ds) ∧ Q (.tup ds) M
  | _ => False
theorem c_tuple : CallD X (.type "tuple") cTuple := by
  refine ⟨_, call_tuple_of, fun xs M H Q' Q vs rm rr q hq => ?_⟩
  unfold cTuple at q
  split at q
  · obtain ⟨v, rfl, r⟩ := rep1 rr
    obtain ⟨p, ys, rfl, hp, r⟩ := Rep.lst_iff.mp r
    exact ⟨p, ys, rfl, .inl ⟨hp.sq, fun l hl => hq _ M _ _ q (.new hl) (rm.new hl) (.tupN rm hl r)⟩⟩
  · obtain ⟨v, rfl, r⟩ := rep1 rr
    obtain ⟨p, ys, rfl, hp, r'⟩ := Rep.tup_iff.mp r
    exact ⟨p, ys, rfl, .inr ⟨hp.sq, hq _ M _ _ q .refl rm r⟩⟩
  · obtain ⟨v, rfl, r⟩ := rep1 rr
    obtain ⟨ds, em, q⟩ := q
    rw [Rep.ref_iff] at r
    subst r
    obtain ⟨ys, e, r⟩ := rm.o _ _ em
    exact ⟨_, ys, rfl, .inl ⟨SqL.of e, fun l hl => hq _ M _ _ q (.new hl) (rm.new hl) (.tupN rm hl r)⟩⟩
  · exact q.elim
def cList : List D → Mp → DK → Prop := fun xs M Q => match xs with
  | [.lst ds] => Q (.lst ds) M
  | [.tup ds] => Q (.lst ds) M
  | [.ref a] => ∃ ds, M a = some (.lst ds) ∧ Q (.lst ds) M
  | _ => False
theorem c_list : CallD X (.type "list") cList := by
  refine ⟨_, call_list_of, fun xs M H Q' Q vs rm rr q hq => ?_⟩
  unfold cList at q
  split at q
  · obtain ⟨v, rfl, r⟩ := rep1 rr
    obtain ⟨p, ys, rfl, hp, r⟩ := Rep.lst_iff.mp r
    exact ⟨p, ys, rfl, .inl hp.sq, fun l hl => hq _ M _ _ q (.new hl) (rm.new hl) (.lstN rm hl r)⟩
  · obtain ⟨v, rfl, r⟩ := rep1 rr
    obtain ⟨p, ys, rfl, hp, r⟩ := Rep.tup_iff.mp r
    exact ⟨p, ys, rfl, .inr hp.sq, fun l hl => hq _ M _ _ q (.new hl) (rm.new hl) (.lstN rm hl r)⟩
  · obtain ⟨v, rfl, r⟩ := rep1 rr
    obtain ⟨ds, em, q⟩ := q
    rw [Rep.ref_iff] at r
    subst r
    obtain ⟨ys, e, r⟩ := rm.o _ _ em
    exact ⟨_, ys, rfl, .inl (SqL.of e), fun l hl => hq _ M _ _ q (.new hl) (rm.new hl) (.lstN rm hl r)⟩
  · exact q.elim
/-- all, any of a list of truth values; sum of numbers -/
theorem Reps.bls : ∀ {vs : List V} {ns : List Bool}, Reps K M H vs (ns.map D.bl) → vs = ns.map V.bl
  | [], [], _ => rfl
  | [], _ :: _, h => by rw [List.map_cons] at h; unfold Reps at h; exact h.elim
  | _ :: _, [], h => by rw [List.map_nil] at h; unfold Reps at h; exact h.elim
  | v :: vs, n :: ns, h => by
    rw [List.map_cons] at h
    unfold Reps at h
    rw [List.map_cons, Rep.bl_iff.mp h.1, Reps.bls h.2]
def cAll (g : List Bool → Bool) : List D → Mp → DK → Prop := fun xs M Q => match xs with | [.lst ds] => ∃ bs : List Bool, ds = bs.map D.bl ∧ Q (.bl (g bs)) M | _ => False
theorem c_all (hc : X.calm = true) : CallD X (.builtin "all") (cAll (·.all id)) := by
  refine ⟨_, cr_all hc, fun xs M H Q' Q vs rm rr q hq => ?_⟩
  unfold cAll at q
  split at q
  · obtain ⟨v, rfl, r⟩ := rep1 rr
    obtain ⟨bs, rfl, q⟩ := q
    obtain ⟨p, ys, rfl, hp, r⟩ := Rep.lst_iff.mp r
    exact ⟨p, bs, rfl, by rw [← r.bls]; exact hp.sq, hq _ M _ _ q .refl rm (Rep.bl_iff.mpr rfl)⟩
  · exact q.elim
theorem c_any (hc : X.calm = true) : CallD X (.builtin "any") (cAll (·.any id)) := by
  refine ⟨_, cr_any hc, fun xs M H Q' Q vs rm rr q hq => ?_⟩
  unfold cAll at q
  split at q
  · obtain ⟨v, rfl, r⟩ := rep1 rr
    obtain ⟨bs, rfl, q⟩ := q
    obtain ⟨p, ys, rfl, hp, r⟩ := Rep.lst_iff.mp r
    exact ⟨p, bs, rfl, by rw [← r.bls]; exact hp.sq, hq _ M _ _ q .refl rm (Rep.bl_iff.mpr rfl)⟩
  · exact q.elim
def cSum : List D → Mp → DK → Prop := fun xs M Q => match xs with | [.lst ds] => ∃ ns : List Int, ds = ns.map D.int ∧ Q (.int ns.sum) M | _ => False
theorem c_sum (hc : X.calm = true) : CallD X (.builtin "sum") cSum := by
  refine ⟨_, cr_sum hc, fun xs M H Q' Q vs rm rr q hq => ?_⟩
  unfold cSum at q
  split at q
  · obtain ⟨v, rfl, r⟩ := rep1 rr
    obtain ⟨bs, rfl, q⟩ := q
    obtain ⟨p, ys, rfl, hp, r⟩ := Rep.lst_iff.mp r
    exact ⟨p, bs, rfl, by rw [← r.ints]; exact hp.sq, hq _ M _ _ q .refl rm (Rep.int_iff.mpr rfl)⟩
  · exact q.elim
/-- repr of plain data -/
theorem call_repr (hgd : X.A.guards = some []) (hu : X.A.units + 80 < cLine) : CallR X (.builtin "repr") (fun xs H Q => ∃ x p, xs = [x] ∧ Dp X.K H x p ∧ p.showable = true ∧ p.hasDict = false ∧ p.depth ≤ 60 ∧ p.shown.length ≤ sizeLine ∧ Q (.str p.shown) H) := by
  intro pins s σ H xs us Q I r h
  obtain ⟨x, p, rfl, dp, h1, h2, h3, h4, q⟩ := h
  obtain ⟨u, rfl, rx⟩ := vals1 r
  obtain ⟨as, rd⟩ := Dp.reads I p x u dp rx
  cases dp with
  | non =>
    cases rx
    exact PySem.P.repr_of_none ⟨.str _, H, I.tok _, ⟨_, rfl⟩, q⟩
  | bl b =>
    cases rx
    exact PySem.P.repr_of_bool ⟨.str _, H, I.tok _, ⟨_, rfl⟩, q⟩
  | int i =>
    obtain ⟨t, rfl⟩ := rx
    exact PySem.P.repr_of_int (by simpa [PyData.showable] using h1) ⟨.str _, H, I.tok _, ⟨_, rfl⟩, q⟩
  | str z =>
    obtain ⟨t, rfl⟩ := rx
    exact PySem.P.repr_of_str ⟨.str _, H, I.tok _, ⟨_, rfl⟩, q⟩ h4
  | @lst a xs ds ha hd =>
    obtain rfl : u = Value.ref a := rx
    exact repr_of_reads' rd h1 (fun z => by rw [h2] at z; cases z) hgd (by omega) (fun _ _ z => z) (fun h' u tk k => ⟨.str _, H, I.kept k, ⟨_, rfl⟩, q⟩) h4
  | @tup a xs ds ha hd =>
    obtain rfl : u = Value.ref a := rx
    exact repr_of_reads' rd h1 (fun z => by rw [h2] at z; cases z) hgd (by omega) (fun _ _ z => z) (fun h' u tk k => ⟨.str _, H, I.kept k, ⟨_, rfl⟩, q⟩) h4
def okRepr (p : PyData) : Prop := p.showable = true ∧ p.hasDict = false ∧ p.depth ≤ 60 ∧ p.shown.length ≤ sizeLine
def cRepr : List D → Mp → DK → Prop := fun xs M Q => match xs with | [x] => ∃ p, pdT M x = some p ∧ okRepr p ∧ Q (.str p.shown) M | _ => False
theorem c_repr (hgd : X.A.guards = some []) (hu : X.A.units + 80 < cLine) : CallD X (.builtin "repr") cRepr := by
  refine ⟨_, call_repr hgd hu, fun xs M H Q' Q vs rm rr q hq => ?_⟩
  unfold cRepr at q
  split at q
  · obtain ⟨v, rfl, r⟩ := rep1 rr
    obtain ⟨p, e, ⟨o1, o2, o3, o4⟩, q⟩ := q
    exact ⟨v, p, rfl, pdT_dp rm r e, o1, o2, o3, o4, hq _ M _ _ q .refl rm (Rep.str_iff.mpr rfl)⟩
  · exact q.elim
end
end Lt
namespace Lt
open PySem PySem.Spec PyProof.Rows L2

section
variable {X : Cx} {M0 : Wd} {H0 : Hp} {a b c e o : Expr} {es : List Expr} {ta tb tc te to : DE} {t u : DT} {ts : DA} {pos apos cpos : Pos} {st : Stmt} {rest : List Stmt} {tS uS : DSt}
variable {K : PySem.W.Frag} {M W : Wd} {H : Hp}

/-! ### isinstance(e, T), T a built-in type -/
def tyD (M : Mp) : D → Option String
  | .non => some "NoneType"
  | .bl _ => some "bool"
  | .int _ => some "int"
  | .str _ => some "str"
  | .tup _ => some "tuple"
  | .lst _ => some "list"
  | .scr _ => some "list"
  | .dct _ _ => some "dict"
  | .ref a => match M a with
    | some (.lst _) => some "list"
    | _ => none
  | _ => none
theorem tyD_ok {v : V} {d : D} {s : String} (rm : RelM K M H) (r : Rep K M H v d) (h : tyD M.m d = some s) : TyX K H v (.type s) := by
  cases d with
  | non => rw [Rep.non_iff] at r; subst r; cases h; exact .base .non
  | bl b => rw [Rep.bl_iff] at r; subst r; cases h; exact .base (.bl b)
  | int b => rw [Rep.int_iff] at r; subst r; cases h; exact .base (.int b)
  | str b => rw [Rep.str_iff] at r; subst r; cases h; exact .base (.str b)
  | ref b =>
    rw [Rep.ref_iff] at r; subst r
    have h : (match M.m b with | some (.lst _) => some "list" | _ => none) = some s := h
    split at h
    · rename_i e
      cases h
      obtain ⟨xs, eh, _⟩ := rm.o _ _ e
      exact .base (.lst eh)
    · cases h
  | ty b => cases h
  | tup b =>
    obtain ⟨a, xs, rfl, ha, _⟩ := Rep.tup_iff.mp r
    cases h
    rcases ha with ⟨_, _, h⟩ | ⟨o, _, _, e, c, _⟩
    · exact .base (.tup h)
    · exact .kTuple e c
  | lst b =>
    obtain ⟨a, xs, rfl, ha, _⟩ := Rep.lst_iff.mp r
    cases h
    exact .base (.lst ha.2.2)
  | scr b =>
    obtain ⟨a, rfl, ha⟩ := Rep.scr_iff.mp r
    cases h
    rcases ha with ⟨_, _, o, h⟩ | ⟨o, _, _, e, c, _⟩
    · exact .base (.frz h)
    · exact .kList e c
  | dct b c =>
    obtain ⟨a, xs, rfl, ha, _⟩ := Rep.dct_iff.mp r
    cases h
    exact .base (.dK ha.2.2)
  | dcl b c => cases h
  | dn w b c => cases h
def subT (a b : String) : Bool := a == b || (a == "bool" && b == "int")
theorem kit_sub {a b : String} (ha : a ∈ ["NoneType", "bool", "int", "str", "tuple", "list", "dict"]) (hb : b ∈ ["bool", "int", "str", "tuple", "list", "dict"]) : kitB a b = some (subT a b) := by
  have all : ∀ a ∈ ["NoneType", "bool", "int", "str", "tuple", "list", "dict"], ∀ b ∈ ["bool", "int", "str", "tuple", "list", "dict"], kitB a b = some (subT a b) := by decide +kernel
  exact all a ha b hb
theorem tyD_mem {M : Mp} {d : D} {s : String} (h : tyD M d = some s) : s ∈ ["NoneType", "bool", "int", "str", "tuple", "list", "dict"] := by
  unfold tyD at h
  split at h <;> first | (cases h; done) | (cases h; simp; done) | skip
  split at h <;> first | (cases h; done) | (cases h; simp; done)
def dIsi (T : String) (te : DE) : DE := fun ds M Q => te ds M fun x M1 => match tyD M1 x with | some s => Q (.bl (subT s T)) M1 | none => False
theorem d_isi {T : String} {x : Str} {p p2 : Pos} (hT : T ∈ ["bool", "int", "str", "tuple", "list", "dict"]) (hg : Gl X "isinstance") (hm : X.mg "isinstance" = none) (hg2 : Gl X x) (hm2 : X.mg x = none) (hv2 : bootBuiltins x = some (.type T)) (he : EE X M0 H0 e te)
    (hn : x ≠ "__name__" := by decide) (hd : (x == ("__debug__" : Str)) = false := by decide) (hs1 : starEach [e, .Name x p2] X.env = (false, eval e X.env) :: starEach [.Name x p2] X.env := by rfl) (hs2 : starEach [.Name x p2] X.env = (false, eval (.Name x p2) X.env) :: starEach [] X.env := by rfl)
    (hpl : (backTo pos (starEach [.Name x p2] X.env)).any (·.1) = false := by rfl) :
    EE X M0 H0 (.Call (.Name "isinstance" p) [e, .Name x p2] [] pos) (dIsi T te) := by
  refine pe_imp (pe_callB call_isi hg hm (by decide +kernel) (pa_cons he (pa_cons (pe_bltn (v := .ty T) hg2 hm2 hv2 rfl hn hd) pa_nil hs2) hs1) (by decide) (by decide) hs1 hpl) fun σ H Q ⟨ds, M, Q', le, rm, rs, h, hq⟩ => ?_
  refine ⟨ds, M, _, le, rm, rs, h, fun d M' v H' q l rm' r' => ?_⟩
  cases e : tyD M'.m d with
  | none =>
    have q : (match tyD M'.m d with | some s => Q' (.bl (subT s T)) M'.m | none => False) := q
    rw [e] at q; exact q.elim
  | some s =>
    have q : (match tyD M'.m d with | some s => Q' (.bl (subT s T)) M'.m | none => False) := q
    rw [e] at q
    exact ⟨v, .ty T, .type s, .type T, subT s T, rfl, .ty T, tyD_ok rm' r' e, kit_ty (kit_sub (tyD_mem e) hT), hq _ M' _ _ q l rm' (Rep.bl_iff.mpr rfl)⟩
/-! ### a dict of the module, text keys -/
def vOf : D → Option V
  | .non => some .non
  | .bl b => some (.bl b)
  | .int i => some (.int i)
  | .str x => some (.str x)
  | _ => none
/-- at x stands a written dict of texts to plain values -/
structure WTab (w : World) (K : PySem.W.Frag) (mg : Str → Option Value) (x : Str) (kvs : List (Str × D)) : Prop where
  ex : ∃ d es n, mg x = some (.ref d) ∧ (d == sysModules) = false ∧ K.lookup d = some ⟨.type "dict", none, .dict es n, #[]⟩ ∧
    Paired (fun (kv : Str × D) (e : DictEntry) => (∃ t, e.key = .str kv.1 t) ∧ e.hash = PyData.keyHash w.params kv.1 ∧ ∃ v, vOf kv.2 = some v ∧ RelV v e.val) kvs es.toList
theorem tab_lit {w : World} : ∀ {kvs : List (Str × D)} {l : List DictEntry}, Paired (fun (kv : Str × D) (e : DictEntry) => (∃ t, e.key = .str kv.1 t) ∧ e.hash = PyData.keyHash w.params kv.1 ∧ ∃ v, vOf kv.2 = some v ∧ RelV v e.val) kvs l → PySem.W.KeysLit w.params l
  | _, _, .nil => trivial
  | _, _, .cons h t => ⟨⟨_, h.1.choose, h.1.choose_spec, h.2.1⟩, tab_lit t⟩
theorem tab_find {w : World} (z : Str) : ∀ {kvs : List (Str × D)} {l : List DictEntry}, Paired (fun (kv : Str × D) (e : DictEntry) => (∃ t, e.key = .str kv.1 t) ∧ e.hash = PyData.keyHash w.params kv.1 ∧ ∃ v, vOf kv.2 = some v ∧ RelV v e.val) kvs l →
    match kvs.lookup z with
    | some d => ∃ e, l.find? (fun e => Value.isStrOf z e.key) = some e ∧ ∃ v, vOf d = some v ∧ RelV v e.val
    | none => l.find? (fun e => Value.isStrOf z e.key) = none
  | _, _, .nil => rfl
  | (k, d) :: kvs, e :: l, .cons h t => by
    obtain ⟨⟨tk, ek⟩, _, v, ev, rv⟩ := h
    rw [List.lookup_cons]
    by_cases hz : z = k
    · subst hz
      rw [beq_self_eq_true]
      exact ⟨e, by rw [List.find?_cons, ek]; simp [Value.isStrOf], v, ev, rv⟩
    · rw [show (z == k) = false from beq_eq_false_iff_ne.mpr hz]
      have hf : Value.isStrOf z e.key = false := by
        rw [ek]
        simp only [Value.isStrOf]
        simpa using fun q => hz q.symm
      rw [List.find?_cons, hf]
      exact tab_find z t
theorem tab_map {w : World} {es : Array DictEntry} {kvs : List (Str × D)} {z : Str} (hk : Paired (fun (kv : Str × D) (e : DictEntry) => (∃ t, e.key = .str kv.1 t) ∧ e.hash = PyData.keyHash w.params kv.1 ∧ ∃ v, vOf kv.2 = some v ∧ RelV v e.val) kvs es.toList) :
    match kvs.lookup z with
    | some d => ∃ u, findBy Value.isStrOf es z = some u ∧ ∃ v, vOf d = some v ∧ RelV v u
    | none => findBy Value.isStrOf es z = none := by
  have q := tab_find z hk
  have ef : findBy Value.isStrOf es z = (es.toList.find? (fun e => Value.isStrOf z e.key)).map (·.val) := by
    unfold findBy
    rw [← Array.find?_toList]
  cases e : kvs.lookup z with
  | none => rw [e] at q; dsimp only at q ⊢; rw [ef, q]; rfl
  | some d =>
    rw [e] at q
    dsimp only at q ⊢
    obtain ⟨en, h1, v, h2, h3⟩ := q
    exact ⟨en.val, by rw [ef, h1]; rfl, v, h2, h3⟩
theorem vOf_rep {d : D} {v : V} (h : vOf d = some v) : Rep K M H v d := by
  cases d with
  | non => cases h; exact Rep.non_iff.mpr rfl
  | bl b => cases h; exact Rep.bl_iff.mpr rfl
  | int b => cases h; exact Rep.int_iff.mpr rfl
  | str b => cases h; exact Rep.str_iff.mpr rfl
  | _ => cases h
/-- e in TABLE -/
def dTabIn (kvs : List (Str × D)) (te : DE) : DE := fun ds M Q => te ds M fun x M1 => match x with | .str z => Q (.bl (kvs.lookup z).isSome) M1 | _ => False
theorem pc_tab {x : Str} {p2 : Pos} {kvs : List (Str × D)} (T : WTab X.w X.K X.mg x kvs) (hg : Gl X x) (he : EE X M0 H0 e te) (hd : (x == ("__debug__" : Str)) = false := by decide) : PC X .In e (.Name x p2) (lE X.K M0 H0 (dTabIn kvs te)) := by
  obtain ⟨d, es, n, hm, hs, hl, hk⟩ := T.ex
  refine ⟨fun pins s σ H Q I ⟨ds, M, Q', le, rm, rs, h, hq⟩ => ?_⟩
  refine thn (he.run pins s σ H (fun v H1 => ∃ z M', v = .str z ∧ Le M H M' H1 ∧ RelM X.K M' H1 ∧ Q' (.bl (kvs.lookup z).isSome) M'.m) I ⟨ds, M, _, le, rm, rs, h, fun y M' v H' q l rm' r' => ?_⟩) fun u s1 ⟨v, H1, I1, r1, z, M', ev, l, rm', q⟩ => ?_
  · cases y with
    | str z => exact ⟨z, M', Rep.str_iff.mp r', l, rm', q⟩
    | _ => exact q.elim
  subst ev
  obtain ⟨t, rfl⟩ := r1
  refine ld_glob I1 hg hm ?_ hd
  refine wpAny_in_of (strKind_is X.prog X.w z t) hs (PySem.W.mapOf_K (prog := X.prog) (w := X.w) I1.kIn hl (tab_lit hk)) ?_
  have q2 := tab_map (z := z) hk
  refine ⟨.bl _, H1, I1.tok _, ?_, hq _ M' _ _ q l rm' (Rep.bl_iff.mpr rfl)⟩
  cases e : kvs.lookup z with
  | none => rw [e] at q2; dsimp only at q2; rw [q2]; rfl
  | some d => rw [e] at q2; obtain ⟨u, h1, _⟩ := q2; rw [h1]; rfl
theorem d_tabIn {x : Str} {p2 : Pos} {kvs : List (Str × D)} (T : WTab X.w X.K X.mg x kvs) (hg : Gl X x) (he : EE X M0 H0 e te) (hd : (x == ("__debug__" : Str)) = false := by decide) (h1 : behindInMarks .In (.Name x p2) = false := by rfl) : EE X M0 H0 (.Compare e [.In] [.Name x p2] pos) (dTabIn kvs te) := pe_cmp (pc_tab T hg he hd) h1
theorem dt_tabIn {x : Str} {p2 : Pos} {kvs : List (Str × D)} (T : WTab X.w X.K X.mg x kvs) (hg : Gl X x) (he : EE X M0 H0 e te) (hd : (x == ("__debug__" : Str)) = false := by decide) (h1 : behindInMarks .In (.Name x p2) = false := by rfl) : ET X M0 H0 (.Compare e [.In] [.Name x p2] pos) (dB (dTabIn kvs te)) := by
  refine pt_imp (pt_cmp (pc_tab T hg he hd) h1) fun σ H Q ⟨ds, M, Q', le, rm, rs, h, hq⟩ => ?_
  refine ⟨ds, M, _, le, rm, rs, h, fun d M' v H' q l rm' r' => ?_⟩
  cases d with
  | bl b => rw [Rep.bl_iff] at r'; exact ⟨b, r', hq _ M' _ q l rm'⟩
  | _ => exact q.elim
/-- TABLE[e] -/
def dTabIx (kvs : List (Str × D)) (te : DE) : DE := fun ds M Q => te ds M fun x M1 => match x with | .str z => ∃ d, kvs.lookup z = some d ∧ Q d M1 | _ => False
theorem d_tabIx {x : Str} {p2 : Pos} {kvs : List (Str × D)} (T : WTab X.w X.K X.mg x kvs) (hg : Gl X x) (he : EE X M0 H0 e te) (hd : (x == ("__debug__" : Str)) = false := by decide) (hs : PlainIx e := by exact fun _ _ => rfl) : EE X M0 H0 (.Subscript (.Name x p2) e pos) (dTabIx kvs te) := by
  obtain ⟨d, es, n, hm, hs2, hl, hk⟩ := T.ex
  refine pe_imp (pe_ix ix_kdict (pe_glob (v := .ref d) hg hm rfl hd) he hs) fun σ H Q ⟨ds, M, Q', le, rm, rs, h, hq⟩ => ?_
  refine ⟨ds, M, _, le, rm, rs, h, fun y M' v H' q l rm' r' => ?_⟩
  cases y with
  | str z =>
    obtain ⟨dd, e1, q⟩ := q
    have q2 := tab_map (z := z) hk
    rw [e1] at q2
    obtain ⟨u, h1, v2, h2, h3⟩ := q2
    rw [Rep.str_iff] at r'
    refine ⟨d, z, v2, rfl, r', ⟨es, n, u, hl, tab_lit hk, ?_, h3⟩, hq _ M' _ _ q l rm' (vOf_rep h2)⟩
    unfold PySem.W.nsIn
    rw [hl]
    dsimp only
    have ef : (fun d : DictEntry => d.key.isStr z) = fun d => Value.isStrOf z d.key := funext fun d => PySem.W.isStr_of z d.key
    rw [ef]
    unfold findBy at h1
    rw [← Array.find?_toList] at h1
    cases e3 : es.toList.find? (fun d => Value.isStrOf z d.key) with
    | none => rw [e3] at h1; cases h1
    | some en => rw [e3] at h1; exact congrArg some h1
  | _ => exact q.elim
/-! ### match over written texts -/
def dCases (x : D) : List (Option Str × DSt) → DSt
  | [], D', ds, M => D'.nx ds M
  | (none, t) :: _, D', ds, M => t D' ds M
  | (some s, t) :: r, D', ds, M => match x with
    | .str z => if z = s then t D' ds M else dCases x r D' ds M
    | .int _ => dCases x r D' ds M
    | _ => False
def sMatch (te : DE) (cs : List (Option Str × DSt)) : DSt := fun D' ds M => te ds M fun x M1 => dCases x cs D' ds M1
/-- the cases as they are written -/
inductive ECs (X : Cx) (M0 : Wd) (H0 : Hp) : List MatchCase → List (Option Str × DSt) → Prop where
  | nil : ECs X M0 H0 [] []
  | dflt {p : Pos} {body : List Stmt} {t : DSt} {r : List MatchCase} {cs} : EB X M0 H0 body t → ECs X M0 H0 r cs → ECs X M0 H0 (⟨.MatchAs none none p, none, body⟩ :: r) ((none, t) :: cs)
  | val {s : Str} {j : Nat} {p p2 : Pos} {body : List Stmt} {t : DSt} {r : List MatchCase} {cs} : EB X M0 H0 body t → ECs X M0 H0 r cs → ECs X M0 H0 (⟨.MatchValue (.Constant (.str s) j p) p2, none, body⟩ :: r) ((some s, t) :: cs)
theorem cases_ok {x : D} {v : V} {u : Value} : ∀ {ms : List MatchCase} {cs : List (Option Str × DSt)} {first : Bool}, ECs X M0 H0 ms cs → ∀ {pins : List (Addr × Obj)} {s : Shared} {σ : L2.St} {H : Hp} {D : Ends} {ds : DS} {M : Wd} {D' : DEnds}, Inv X pins σ H s → RelV v u → Le M0 H0 M H → RelM X.K M H →
    RelS X.K M H σ ds → Rep X.K M H v x → dCases x cs D' ds M.m → EndsOk X.K M H D' D → wpAny (model X.prog X.w) X.A (matchCases ms X.env u first) (SP X pins D) X.xe s
  | _, _, _, .nil, pins, s, σ, H, D, ds, M, D', I, ru, le, rm, rs, r, h, hq => wpAny_matchCases_nil ⟨σ, H, I, hq.nx _ M _ _ h .refl rm rs⟩
  | _, _, _, .dflt hb hr, pins, s, σ, H, D, ds, M, D', I, ru, le, rm, rs, r, h, hq => by
    refine wpAny_matchCases_cons (wpAny_matchPattern_Capture ?_)
    exact wpAny_assignInOrder_none (hb.run pins s σ H D I ⟨ds, M, D', le, rm, rs, h, hq⟩)
  | _, _, _, .val (s := z) hb hr, pins, s, σ, H, D, ds, M, D', I, ru, le, rm, rs, r, h, hq => by
    refine wpAny_matchCases_cons (wpAny_matchPattern_Value (thn (pe_str.run pins s σ H (fun y H1 => y = V.str z ∧ H1 = H) I ⟨rfl, rfl⟩) fun c s1 ⟨y, H1, I1, rc, ey, eH⟩ => ?_))
    subst ey eH
    cases x with
    | str w =>
      rw [Rep.str_iff] at r
      subst r
      refine thn (op_eq pins s1 σ _ (.str w) (.str z) u c (fun b H2 => b = .bl (decide (w = z)) ∧ H2 = H1) I1 ru rc ⟨rfl, ?_, rfl⟩) fun q s2 ⟨b, H2, I2, rb, eb, e2⟩ => ?_
      · by_cases e : w = z
        · subst e; simp
        · simp [e]
      subst eb e2
      cases rb
      refine wpAny_truthy_bool ?_
      have h : if w = z then _ else _ := h
      by_cases e : w = z
      · rw [if_pos e] at h
        rw [decide_eq_true e]
        exact iteT (wpAny_assignInOrder_none (hb.run pins s2 σ _ D I2 ⟨ds, M, D', le, rm, rs, h, hq⟩))
      · rw [if_neg e] at h
        rw [decide_eq_false e]
        exact iteF (cases_ok hr I2 ru le rm rs (Rep.str_iff.mpr rfl) h hq)
    | int i =>
      rw [Rep.int_iff] at r
      subst r
      refine thn (op_eq pins s1 σ _ (.int i) (.str z) u c (fun b H2 => b = .bl false ∧ H2 = H1) I1 ru rc ⟨rfl, by simp⟩) fun q s2 ⟨b, H2, I2, rb, eb, e2⟩ => ?_
      subst eb e2
      cases rb
      refine wpAny_truthy_bool (iteF (cases_ok hr I2 ru le rm rs (Rep.int_iff.mpr rfl) h hq))
    | _ => exact h.elim
theorem s_match {ms : List MatchCase} {cs : List (Option Str × DSt)} (he : EE X M0 H0 e te) (hc : ECs X M0 H0 ms cs) : ES X M0 H0 (.Match e ms pos) (sMatch te cs) := by
  refine ⟨fun pins s σ H D I ⟨ds, M, D', le, rm, rs, h, hq⟩ => wpAny_Match ?_⟩
  refine thn (he.run pins s σ H (fun v H1 => ∃ x M1, Le M H M1 H1 ∧ RelM X.K M1 H1 ∧ Rep X.K M1 H1 v x ∧ dCases x cs D' ds M1.m) I ⟨ds, M, _, le, rm, rs, h, fun x M' v H' q l rm' r' => ⟨x, M', l, rm', r', q⟩⟩) fun u s1 ⟨v, H1, I1, ru, x, M1, l, rm1, r1, q⟩ => ?_
  exact cases_ok hc I1 ru (le.trans l) rm1 (rs.mono l.w) r1 q (hq.mono l)
/-! ### raise X("..") -/
/-- an error class of the program without an __init__ -/
structure ExcC (K : PySem.W.Frag) (mg : Str → Option Value) (x : Str) (C : Addr) : Prop where
  gC : mg x = some (.ref C)
  kC : PySem.W.keepIn K (.ref C) = true
  xC : PySem.W.excIn K C [.type "ValueError", .type "Exception", .type "BaseException", .type "object"] "ValueError.__new__" = true
  bC : PySem.W.subIn K (.ref C) (.type "BaseException") = some true
  tC : PySem.W.typeIn K (.ref C) = some (.type "type")
def sRaise (C : Addr) (E' : XD) : DSt := fun _ _ M => E' (.ref C) none M
theorem s_raise {x m : Str} {C : Addr} {E' : XD} {j : Nat} {p p2 p3 : Pos} (F : ExcC X.K X.mg x C) (hg : Gl X x) (hc : X.calm = true) (tk : DWish X M0 H0 E') (hdb : (x == ("__debug__" : Str)) = false := by decide) :
    ES X M0 H0 (.Raise (some (.Call (.Name x p) [.Constant (.str m) j p2] [] p3)) none pos) (sRaise C E') := by
  refine ps_imp (ps_raise hc tk (pmk_own PySem.F.excBase_ValueError F.xC F.gC F.kC (raises_own F.bC F.tC) hg hdb)) fun D σ H ⟨ds, M, D', le, rm, rs, h, hq⟩ => ?_
  exact ⟨none, M, h, le, rm, rfl⟩
/-! ### xs.append(e), xs.extend(e), of a list of ours -/
def dAppend (to te : DE) : DE := fun ds M Q => to ds M fun o M1 => match o with
  | .ref a => ∃ x0, M1 a = some (.lst x0) ∧ te ds M1 fun y M2 => ∃ xs, M2 a = some (.lst xs) ∧ xs.length < sizeLine ∧ Q .non (mup M2 a (.lst (xs ++ [y])))
  | _ => False
theorem d_append {p1 p2 : Pos} (ho : EE X M0 H0 o to) (he : EE X M0 H0 e te)
    (hbase : attributeBase o "append" X.env (eval o X.env) = eval o X.env := by rfl)
    (hfew : ((backTo p2 (starEach [e] X.env)).all (fun x => !x.1) && (backToKw p2 (keywordEach [] X.env)).all (fun x => x.1.isSome) && decide ([e].length + ([] : List Keyword).length + (if ([] : List Keyword).isEmpty then 0 else 1) < 30)) = true := by rfl)
    (hline : (p1.endLine == p2.line) = true := by rfl) (hs : starEach [e] X.env = (false, eval e X.env) :: starEach [] X.env := by rfl) : EE X M0 H0 (.Call (.Attribute o "append" p1) [e] [] p2) (dAppend to te) := by
  refine pe_imp (pe_bm PySem.F.plainAttrs_list PySem.F.slot_list_append PySem.F.type_list_append mt_append ho (pa_cons he pa_nil hs) hbase hfew hline hs rfl) fun σ H Q ⟨ds, M, Q', le, rm, rs, h, hq⟩ => ?_
  refine ⟨ds, M, _, le, rm, rs, h, fun d M1 v H1 q l rm1 r1 => ?_⟩
  cases d with
  | ref a =>
    rw [Rep.ref_iff] at r1
    subst r1
    obtain ⟨x0, e0, q⟩ := q
    obtain ⟨v0, eh0, _⟩ := rm1.o _ _ e0
    refine ⟨.inl ⟨rfl, v0, SqL.of eh0⟩, ds, M1, _, le.trans l, rm1, rs.mono l.w, q, fun y M2 w H2 q2 l2 rm2 r2 => ?_⟩
    obtain ⟨xs, ex, hz, q2⟩ := q2
    obtain ⟨vs, eh, r⟩ := rm2.o _ _ ex
    refine ⟨a, vs, w, rfl, rfl, eh, by rw [r.len]; exact hz, ?_⟩
    have lp := Le.put (o := .lst (vs ++ [w])) (mo := .lst (xs ++ [y])) (H := H2) ex
    exact hq _ ⟨mup M2.m a (.lst (xs ++ [y])), M2.s⟩ _ _ q2 ((l.trans l2).trans lp) (rm2.put ex ⟨_, upd_same, (r.append (.cons r2 .nil)).mono lp.w⟩) (Rep.non_iff.mpr rfl)
  | _ => exact q.elim
/-- a.extend(list) -/
def dExtend (to te : DE) : DE := fun ds M Q => to ds M fun o M1 => match o with
  | .ref a => ∃ x0, M1 a = some (.lst x0) ∧ te ds M1 fun y M2 => match y with
    | .lst ys => ∃ xs, M2 a = some (.lst xs) ∧ xs.length + ys.length ≤ sizeLine ∧ Q .non (mup M2 a (.lst (xs ++ ys)))
    | _ => False
  | _ => False
theorem d_extend {p1 p2 : Pos} (ho : EE X M0 H0 o to) (he : EE X M0 H0 e te)
    (hbase : attributeBase o "extend" X.env (eval o X.env) = eval o X.env := by rfl)
    (hfew : ((backTo p2 (starEach [e] X.env)).all (fun x => !x.1) && (backToKw p2 (keywordEach [] X.env)).all (fun x => x.1.isSome) && decide ([e].length + ([] : List Keyword).length + (if ([] : List Keyword).isEmpty then 0 else 1) < 30)) = true := by rfl)
    (hline : (p1.endLine == p2.line) = true := by rfl) (hs : starEach [e] X.env = (false, eval e X.env) :: starEach [] X.env := by rfl) : EE X M0 H0 (.Call (.Attribute o "extend" p1) [e] [] p2) (dExtend to te) := by
  refine pe_imp (pe_bm PySem.F.plainAttrs_list PySem.F.slot_list_extend PySem.F.type_list_extend mt_extend ho (pa_cons he pa_nil hs) hbase hfew hline hs rfl) fun σ H Q ⟨ds, M, Q', le, rm, rs, h, hq⟩ => ?_
  refine ⟨ds, M, _, le, rm, rs, h, fun d M1 v H1 q l rm1 r1 => ?_⟩
  cases d with
  | ref a =>
    rw [Rep.ref_iff] at r1
    subst r1
    obtain ⟨x0, e0, q⟩ := q
    obtain ⟨v0, eh0, _⟩ := rm1.o _ _ e0
    refine ⟨.inl ⟨rfl, v0, SqL.of eh0⟩, ds, M1, _, le.trans l, rm1, rs.mono l.w, q, fun y M2 w H2 q2 l2 rm2 r2 => ?_⟩
    cases y with
    | lst ys =>
      obtain ⟨xs, ex, hz, q2⟩ := q2
      obtain ⟨vs, eh, r⟩ := rm2.o _ _ ex
      obtain ⟨b, ws, rfl, hb, rb⟩ := Rep.lst_iff.mp r2
      refine ⟨a, b, vs, ws, rfl, rfl, eh, hb.2.2, by rw [r.len, rb.len]; exact hz, ?_⟩
      have lp := Le.put (o := .lst (vs ++ ws)) (mo := .lst (xs ++ ys)) (H := H2) ex
      exact hq _ ⟨mup M2.m a (.lst (xs ++ ys)), M2.s⟩ _ _ q2 ((l.trans l2).trans lp) (rm2.put ex ⟨_, upd_same, (r.append rb).mono lp.w⟩) (Rep.non_iff.mpr rfl)
    | _ => exact q2.elim
  | _ => exact q.elim
/-! ### {"a": .., ..}: the keys are written -/
abbrev DVs := List (Key × DE)
def dPairs : DVs → DS → Mp → (List D → Mp → Prop) → Prop
  | [], _, M, Q => Q [] M
  | (_, t) :: r, ds, M, Q => t ds M fun x M1 => dPairs r ds M1 fun xs M2 => Q (x :: xs) M2
def dDct (kts : DVs) : DE := fun ds M Q => dPairs kts ds M fun xs M1 => Q (.dct (kts.map (·.1)) xs) M1
def hPairs (K : PySem.W.Frag) (kts : DVs) : List (TE × TE) := kts.map fun kt => (tC (kV kt.1), fun σ H Q => ∃ B : Wd × Hp, lE K B.1 B.2 kt.2 σ H Q)
abbrev EP (X : Cx) (pos : Pos) (ks : List (Option Expr)) (vs : List Expr) (kts : DVs) : Prop := PPs X pos ks vs (hPairs X.K kts)
theorem ep_nil : EP X pos [] [] [] := pps_nil
theorem ep_str {ks : List (Option Expr)} {vs : List Expr} {kts : DVs} {z : Str} {j : Nat} {p : Pos} (he : ∀ (M0 : Wd) (H0 : Hp), EE X M0 H0 e te) (hr : EP X pos ks vs kts) : EP X pos (some (.Constant (.str z) j p) :: ks) (e :: vs) ((.inr z, te) :: kts) :=
  pps_cons (tk := tC (.str z)) pe_str (pe_ex (t := fun B : Wd × Hp => lE X.K B.1 B.2 te) fun B => he B.1 B.2) hr
/-- the values are read, in whatever world -/
theorem pairs_ok {σ : L2.St} {ds : DS} : ∀ {kts : DVs} {M : Wd} {H : Hp} {Q' : List D → Mp → Prop} {Q : List (V × V) → Hp → Prop}, RelM K M H → RelS K M H σ ds → dPairs kts ds M.m Q' →
    (∀ xs M' vs H', Q' xs M'.m → Le M H M' H' → RelM K M' H' → Reps K M' H' vs xs → vs.length = kts.length → Q (List.zipWith (fun kt v => (kV kt.1, v)) kts vs) H') → tPairs (hPairs K kts) σ H Q
  | [], M, H, Q', Q, rm, rs, h, hq => hq [] M [] H h .refl rm .nil rfl
  | (k, t) :: kts, M, H, Q', Q, rm, rs, h, hq => by
    refine ⟨(M, H), ds, M, _, .refl, rm, rs, h, fun x M2 v H2 q l2 rm2 r2 => ?_⟩
    exact pairs_ok rm2 (rs.mono l2.w) (kts := kts) q fun xs M' vs H' q3 l3 rm3 r3 hl => hq (x :: xs) M' (v :: vs) H' q3 (l2.trans l3) rm3 (.cons (r2.mono l3.w) r3) (by simp [hl])
theorem putK_new {kvs : List (Key × V)} {k : Key} {v : V} (h : k ∉ kvs.map (·.1)) : putK kvs k v = kvs ++ [(k, v)] := by
  unfold putK
  rw [if_neg]
  intro q
  rw [List.any_eq_true] at q
  obtain ⟨x, hx, e⟩ := q
  exact h (List.mem_map.mpr ⟨x, hx, of_decide_eq_true e⟩)
theorem mergeK_nodup : ∀ {more kvs : List (Key × V)}, (kvs.map (·.1) ++ more.map (·.1)).Nodup → mergeK kvs more = kvs ++ more
  | [], kvs, _ => by simp [mergeK]
  | kv :: more, kvs, h => by
    show mergeK (putK kvs kv.1 kv.2) more = _
    have hk : kv.1 ∉ kvs.map (·.1) := fun z => (List.nodup_append.mp h).2.2 _ z _ (by simp) rfl
    rw [putK_new hk, mergeK_nodup (by simpa using h)]
    simp
theorem zip_eq {kts : DVs} {vs : List V} : List.zipWith (fun (kt : Key × DE) v => (kV kt.1, v)) kts vs = ((kts.map (·.1)).zip vs).map (fun kv => (kV kv.1, kv.2)) := by
  induction kts generalizing vs with
  | nil => rfl
  | cons k r ih =>
    cases vs with
    | nil => rfl
    | cons v vs => simp [ih]
theorem d_dct {ks : List (Option Expr)} {vs : List Expr} {kts : DVs} (h : EP X pos ks vs kts) (hn : (kts.map (·.1)).Nodup) (hall : ks.all (·.isSome) = true := by rfl) (hl : ks.length = vs.length := by rfl) (h0 : ks ≠ [] := by exact fun z => nomatch z) (h15 : ks.length ≤ 15 := by decide) (hk : kts.length ≤ 15 := by decide) :
    EE X M0 H0 (.Dict ks vs pos) (dDct kts) := by
  refine pe_imp (pe_disp h hall hl h0 h15) fun σ H Q ⟨ds, M, Q', le, rm, rs, h, hq⟩ p hp => ?_
  have at0 := LcAt.start (p := p) rm hp
  have lw0 : Lw M H ⟨M.m, hid M.s p⟩ (upd H p (.dK [])) := fun a o h1 h2 h3 => ⟨h1, fun z => z.elim h2 (ne_of_none h3 hp), by rw [upd_ne (ne_of_none h3 hp)]; exact h3⟩
  have rm0 : RelM X.K ⟨M.m, hid M.s p⟩ (upd H p (.dK [])) := by
    refine ⟨fun a o e => ?_, fun a z => ?_⟩
    · have ne : a ≠ p := fun z => by rw [z] at e; have := rm.free hp; rw [this] at e; cases e
      exact (rm.o a o e).mono lw0 (upd_ne ne)
    · rcases z with z | rfl
      · obtain ⟨h1, o, e⟩ := rm.h a z
        exact ⟨h1, o, by rw [upd_ne (ne_of_none e hp)]; exact e⟩
      · exact ⟨rm.free hp, _, upd_same⟩
  refine pairs_ok rm0 (rs.mono lw0) h fun xs M' vs H' q l rm' r hlen => ?_
  have es : M' = ⟨M'.m, hid M.s p⟩ := by have := l.2; cases M'; simp at this ⊢; exact this
  rw [es] at l rm' r
  have hpm := (rm'.h p (.inr rfl)).1
  have e3 := (l.1 p _ (rm.free hp) upd_same).2
  have hk2 : ((kts.map (·.1)).zip vs).map (·.1) = kts.map (·.1) := by
    rw [List.map_fst_zip]
    rw [List.length_map, hlen]
    exact Nat.le_refl _
  refine ⟨e3, (kts.map (·.1)).zip vs, zip_eq, by rw [List.length_zip, List.length_map, hlen]; omega, ?_⟩
  rw [mergeK_nodup (by rw [List.map_nil, List.nil_append, hk2]; exact hn), List.nil_append]
  have lwF : Lw ⟨M'.m, hid M.s p⟩ H' ⟨M'.m, M.s⟩ (upd H' p (.dK ((kts.map (·.1)).zip vs))) := fun a o h1 h2 h3 => ⟨h1, fun z => h2 (.inl z), by rw [upd_ne fun z => h2 (.inr z)]; exact h3⟩
  refine hq _ ⟨M'.m, M.s⟩ _ _ q ⟨fun a o h1 h2 => ?_, rfl⟩ ⟨fun a o ea => ?_, fun a z => ?_⟩ (Rep.dct_iff.mpr ⟨p, vs, rfl, ⟨hpm, rm.vis hp, upd_same⟩, by rw [List.length_map]; exact hlen, r.mono lwF⟩)
  · have ne := ne_of_none h2 hp
    obtain ⟨e1, e2⟩ := l.1 a o h1 (by rw [upd_ne ne]; exact h2)
    exact ⟨e1, by rw [upd_ne ne]; exact e2⟩
  · have ne : a ≠ p := fun z => by rw [z] at ea; have ea : M'.m p = some o := ea; rw [hpm] at ea; cases ea
    exact (rm'.o a o ea).mono lwF (upd_ne ne)
  · obtain ⟨h1, o, e2⟩ := rm'.h a (.inl z)
    by_cases ne : a = p
    · subst ne; exact ⟨h1, _, upd_same⟩
    · exact ⟨h1, o, by rw [upd_ne ne]; exact e2⟩
/-- where a key stands -/
def keyD : D → Option Key
  | .int i => some (.inl i)
  | .str x => some (.inr x)
  | _ => none
def findD (k : Key) : List Key → List D → Option D
  | k' :: ks, d :: ds => if k' = k then some d else findD k ks ds
  | _, _ => none
theorem findD_ok {k : Key} : ∀ {ks : List Key} {vs : List V} {ds : List D}, vs.length = ks.length → Reps K M H vs ds → match findD k ks ds with
    | some d => ∃ v, valV (ks.zip vs) k = some v ∧ Rep K M H v d
    | none => valV (ks.zip vs) k = none
  | [], vs, ds, hl, r => by
    cases ds <;> rfl
  | k' :: ks, [], ds, hl, r => by simp at hl
  | k' :: ks, v :: vs, [], hl, r => by unfold Reps at r; exact r.elim
  | k' :: ks, v :: vs, d :: ds, hl, r => by
    unfold Reps at r
    unfold findD
    by_cases e : k' = k
    · rw [if_pos e]
      exact ⟨v, by simp [valV, e], r.1⟩
    · rw [if_neg e]
      have ih := findD_ok (k := k) (ks := ks) (by simpa using hl) r.2
      have e2 : valV ((k' :: ks).zip (v :: vs)) k = valV (ks.zip vs) k := by
        unfold valV
        rw [List.zip_cons_cons, List.find?_cons, decide_eq_false e]
      rw [e2]
      exact ih
def dDctIx (td te : DE) : DE := fun ds M Q => td ds M fun x M1 => te ds M1 fun y M2 => match x with
  | .dct ks vs => ∃ k d, keyD y = some k ∧ findD k ks vs = some d ∧ Q d M2
  | _ => False
theorem keyD_rep {y : D} {k : Key} {v : V} (r : Rep K M H v y) (h : keyD y = some k) : v = kV k := by
  cases y with
  | int i => cases h; exact Rep.int_iff.mp r
  | str i => cases h; exact Rep.str_iff.mp r
  | _ => cases h
theorem d_dctIx (hu : X.A.units + 1 < cLine) (ho : EE X M0 H0 o to) (he : EE X M0 H0 e te) (hs : NoSl e := by exact fun _ _ => rfl) : EE X M0 H0 (.Subscript o e pos) (dDctIx to te) := by
  refine pe_imp (pe_dget hu ho he hs) fun σ H Q ⟨ds, M, Q', le, rm, rs, h, hq⟩ => ?_
  refine ⟨ds, M, _, le, rm, rs, h, fun d M1 v H1 q l rm1 r1 => ?_⟩
  refine ⟨ds, M1, _, le.trans l, rm1, rs.mono l.w, q, fun y M2 w H2 q l2 rm2 r2 => ?_⟩
  cases d with
  | dct ks xs =>
    obtain ⟨a, vs, rfl, ha, hl, r⟩ := Rep.dct_iff.mp (r1.mono l2.w)
    obtain ⟨k, dd, e1, e2, q⟩ := q
    have f := findD_ok (k := k) hl r
    rw [e2] at f
    obtain ⟨vv, e3, rv⟩ := f
    rw [keyD_rep r2 e1]
    exact ⟨a, vv, rfl, e3 ▸ DGet.k ha.2.2, hq _ M2 _ _ q (l.trans l2) rm2 rv⟩
  | _ => exact q.elim
/-- {..}.get(k, d) -/
def dDctGet (td te tx : DE) : DE := fun ds M Q => td ds M fun x M1 => te ds M1 fun y M2 => tx ds M2 fun z M3 => match x with
  | .dct ks vs => ∃ k, keyD y = some k ∧ Q ((findD k ks vs).getD z) M3
  | _ => False
end
end Lt
namespace Lt
theorem ifP {c : Prop} [Decidable c] {A B : Prop} (h1 : c → A) (h2 : ¬ c → B) : if decide c = true then A else B := by
  by_cases h : c
  · rw [decide_eq_true h]; exact L2.iteT (h1 h)
  · rw [decide_eq_false h]; exact L2.iteF (h2 h)
theorem ifN {c : Prop} [Decidable c] {A B : Prop} (h1 : ¬ c → A) (h2 : c → B) : if (!decide c) = true then A else B := by
  by_cases h : c
  · rw [decide_eq_true h]; exact L2.iteF (h2 h)
  · rw [decide_eq_false h]; exact L2.iteT (h1 h)
theorem ifB {b : Bool} {A B : Prop} (h1 : b = true → A) (h2 : b = false → B) : if b = true then A else B := by
  cases b with
  | true => exact L2.iteT (h1 rfl)
  | false => exact L2.iteF (h2 rfl)
theorem ifNB {b : Bool} {A B : Prop} (h1 : b = false → A) (h2 : b = true → B) : if (!b) = true then A else B := by
  cases b with
  | true => exact L2.iteF (h2 rfl)
  | false => exact L2.iteT (h1 rfl)
end Lt
namespace Lt
theorem at_j {α : Type} {xs : List α} {z : Int} {v : α} (j : Nat) (e : z = (j : Int)) (h : xs[j]? = some v) : L2.atI xs z = some v := by
  rw [e]; exact L2.atI_nat h
end Lt
namespace Lt
theorem hu80 {k : Nat} {A : PySem.Around} (hr : L2.Room k A) : A.units + 80 < PySem.cLine := by have := hr.un; omega
end Lt
namespace Lt
/-- a comprehension by what holds behind each turn -/
theorem dComp_inv {g : Tg} {tt : DT} {te : DE} {own : List Nat} {ds : DS} {items : List D} {M : Mp} {Q : DK} (P : Nat → List D → Mp → Prop) (h0 : P 0 [] M)
    (hs : ∀ i x acc M (R : List D → Mp → Prop), items[i]? = some x → P i acc M → (∀ acc' M', P (i + 1) acc' M' → R acc' M') →
      dTg g x (dwipe ds own) fun ds1 => tt ds1 M fun b M2 => if b = true then te ds1 M2 fun y M3 => acc.length < PySem.sizeLine ∧ R (acc ++ [y]) M3 else R acc M2)
    (hd : ∀ acc M, P items.length acc M → Q (.lst acc) M) : dComp g tt te own ds items M [] Q := by
  have key : ∀ (l : List D) (i : Nat) (acc : List D) (M : Mp), l = items.drop i → i + l.length = items.length → P i acc M → dComp g tt te own ds l M acc Q := by
    intro l
    induction l with
    | nil => intro i acc M _ e p; rw [List.length_nil, Nat.add_zero] at e; exact hd acc M (e ▸ p)
    | cons d l ih =>
      intro i acc M e el p
      rw [List.length_cons] at el
      have hi : i < items.length := by omega
      rw [List.drop_eq_getElem_cons hi] at e
      injection e with e1 e2
      exact hs i d acc M (fun acc' M' => dComp g tt te own ds l M' acc' Q) (by rw [e1]; exact List.getElem?_eq_getElem hi) p fun acc M p => ih (i + 1) acc M e2 (by omega) p
  exact key items 0 [] M rfl (by omega) h0
end Lt
namespace Lt
theorem mup3 {M : Mp} {b p : PySem.Addr} {x y z : MO} (h : b ≠ p) : mup (mup (mup M b x) p y) b z = mup (mup M b z) p y := by
  funext a; unfold mup
  by_cases e : a = b
  · subst e; rw [if_pos rfl, if_neg h, if_pos rfl]
  · rw [if_neg e]
    by_cases e2 : a = p
    · rw [if_pos e2, if_pos e2]
    · rw [if_neg e2, if_neg e2, if_neg e, if_neg e]
theorem mup_lo {M : Mp} {b p : PySem.Addr} {x y : MO} (h : b ≠ p) : mup (mup M b x) p y b = some x := by rw [mup_ne h, mup_same]
theorem mup_drop {M : Mp} {b p : PySem.Addr} {x y : MO} (h : b ≠ p) (hp : M p = none) : mrm (mup (mup M b x) p y) p = mup M b x := mrm_mup (by rw [mup_ne (Ne.symm h)]; exact hp)
end Lt
/-! the mathematics of the steps -/
namespace Lt
open PySem PySem.W

theorem inV2 {v a b : Int} : L2.inV (.int v) [.int a, .int b] = decide (v = a ∨ v = b) := by
  show ((a == v) || ((b == v) || false)) = _
  rw [Bool.or_false]
  by_cases h1 : v = a
  · subst h1; simp
  · by_cases h2 : v = b
    · subst h2; simp
    · simp [h1, h2, Ne.symm h1, Ne.symm h2]
inductive Mk where
  | c | s | f | t
  deriving DecidableEq
/-- a step -/
inductive Stp where
  | add (k : Int) | mk (m : Mk)
  deriving DecidableEq
def Mk.st : Mk → Str
  | .c => "c"
  | .s => "s"
  | .f => "f"
  | .t => "t"
def Stp.d : Stp → D
  | .add k => .int k
  | .mk m => .str m.st
/-- the bit at which it ends; the bit that it writes -/
def Mk.trig : Mk → Int
  | .c => 1
  | .s => 0
  | .f => 1
  | .t => 0
def Mk.wr : Mk → Int
  | .c => 0
  | .s => 1
  | .f => 1
  | .t => 0
def Mk.ap : Mk → Int → Int
  | .c, n => Builtin.bitAnd n (n - 1)
  | .s, n => Builtin.bitOr n (n + 1)
  | .f, n => Builtin.bitOr n (n - 1)
  | .t, n => Builtin.bitAnd n (n + 1)
def Stp.ap : Stp → Int → Int
  | .add k, n => n + k
  | .mk m, n => m.ap n
/-- from the first step to the last one -/
def run (l : List Stp) (n : Int) : Int := l.foldl (fun n s => s.ap n) n
theorem run_nil (n : Int) : run [] n = n := rfl
theorem run_cons (s : Stp) (l : List Stp) (n : Int) : run (s :: l) n = run l (s.ap n) := rfl
theorem run_append (l r : List Stp) (n : Int) : run (l ++ r) n = run r (run l n) := by
  unfold run; rw [List.foldl_append]
theorem band_self (x : Int) : Builtin.bitAnd x x = x := by
  by_cases h : 0 ≤ x
  · simp [Builtin.bitAnd, h]; omega
  · simp [Builtin.bitAnd, h, Builtin.bitNot]
    omega
theorem bor_eq (x y : Int) : Builtin.bitOr x y = -(Builtin.bitAnd (-x - 1) (-y - 1)) - 1 := rfl
theorem bor_halves (x y : Int) : Builtin.bitOr x y = 2 * Builtin.bitOr (x / 2) (y / 2) + (if x % 2 = 1 ∨ y % 2 = 1 then 1 else 0) := by
  rw [bor_eq, bor_eq, kbt_halves (-x - 1) (-y - 1)]
  have e1 : (-x - 1) / 2 = -(x / 2) - 1 := by omega
  have e2 : (-y - 1) / 2 = -(y / 2) - 1 := by omega
  rw [e1, e2]
  split <;> split <;> omega
theorem bor_self (x : Int) : Builtin.bitOr x x = x := by
  rw [bor_eq, band_self]; omega
/-- point 7: what a mask does, bit by bit -/
theorem Mk.ap_bit (m : Mk) (x : Int) : m.ap x = 2 * (if x % 2 = m.trig then x / 2 else m.ap (x / 2)) + m.wr := by
  cases m with
  | c =>
    show Builtin.bitAnd x (x - 1) = 2 * (if x % 2 = 1 then x / 2 else Builtin.bitAnd (x / 2) (x / 2 - 1)) + 0
    rw [kbt_halves]
    by_cases h : x % 2 = 1
    · rw [if_pos h, if_neg (by omega), show (x - 1) / 2 = x / 2 by omega, band_self]
    · rw [if_neg h, if_neg (by omega), show (x - 1) / 2 = x / 2 - 1 by omega]
  | s =>
    show Builtin.bitOr x (x + 1) = 2 * (if x % 2 = 0 then x / 2 else Builtin.bitOr (x / 2) (x / 2 + 1)) + 1
    rw [bor_halves]
    by_cases h : x % 2 = 0
    · rw [if_pos h, if_pos (by omega), show (x + 1) / 2 = x / 2 by omega, bor_self]
    · rw [if_neg h, if_pos (by omega), show (x + 1) / 2 = x / 2 + 1 by omega]
  | f =>
    show Builtin.bitOr x (x - 1) = 2 * (if x % 2 = 1 then x / 2 else Builtin.bitOr (x / 2) (x / 2 - 1)) + 1
    rw [bor_halves]
    by_cases h : x % 2 = 1
    · rw [if_pos h, if_pos (by omega), show (x - 1) / 2 = x / 2 by omega, bor_self]
    · rw [if_neg h, if_pos (by omega), show (x - 1) / 2 = x / 2 - 1 by omega]
  | t =>
    show Builtin.bitAnd x (x + 1) = 2 * (if x % 2 = 0 then x / 2 else Builtin.bitAnd (x / 2) (x / 2 + 1)) + 0
    rw [kbt_halves]
    by_cases h : x % 2 = 0
    · rw [if_pos h, if_neg (by omega), show (x + 1) / 2 = x / 2 by omega, band_self]
    · rw [if_neg h, if_neg (by omega), show (x + 1) / 2 = x / 2 + 1 by omega]
theorem ediv_pow_succ (v : Int) (k : Nat) : v / 2 ^ (k + 1) = v / 2 / 2 ^ k := by
  rw [Int.pow_succ, Int.mul_comm, Int.ediv_ediv_of_nonneg (by decide)]
theorem ediv_pow_succ' (v : Int) (k : Nat) : v / 2 ^ (k + 1) = v / 2 ^ k / 2 := by
  rw [Int.pow_succ, Int.ediv_ediv_of_nonneg (Int.le_of_lt (Int.pow_pos (by decide)))]
/-- how great it may become -/
theorem Mk.ap_range (m : Mk) : ∀ (n : Nat) (v : Int), -2 ^ n ≤ v → v < 2 ^ n → -2 ^ (n + 1) ≤ m.ap v ∧ m.ap v < 2 ^ (n + 1)
  | 0, v, h1, h2 => by
    have e : v = 0 ∨ v = -1 := by omega
    have := m.ap_bit v
    rcases e with rfl | rfl <;> cases m <;> simp only [Mk.trig, Mk.wr] at this <;> simp at this ⊢ <;> omega
  | n + 1, v, h1, h2 => by
    have := m.ap_bit v
    rw [Int.pow_succ] at h1 h2
    have ih := m.ap_range n (v / 2) (by omega) (by omega)
    have hw : m.wr = 0 ∨ m.wr = 1 := by cases m <;> simp [Mk.wr]
    rw [Int.pow_succ _ (n + 1)]
    rw [Int.pow_succ] at ih ⊢
    split at this <;> omega
theorem Mk.ap_size (m : Mk) {n : Nat} {v : Int} (h : v.natAbs < 2 ^ n) : (m.ap v).natAbs < 2 ^ (n + 2) := by
  have h' : (v.natAbs : Int) < 2 ^ n := by exact_mod_cast h
  have := m.ap_range n v (by omega) (by omega)
  have p0 : (0 : Int) < 2 ^ (n + 1) := Int.pow_pos (by decide)
  have e : ((2 ^ (n + 2) : Nat) : Int) = 2 * 2 ^ (n + 1) := by
    rw [Int.natCast_pow]
    rw [show ((2 : Nat) : Int) = 2 from rfl, Int.pow_succ _ (n + 1)]
    omega
  omega
/-- where it ends, what it makes -/
theorem Mk.ap_at (m : Mk) : ∀ (k : Nat) (v : Int), v / 2 ^ k % 2 = m.trig → (∀ j, j < k → v / 2 ^ j % 2 ≠ m.trig) → m.ap v = v / 2 ^ (k + 1) * 2 ^ (k + 1) + m.wr * (2 ^ (k + 1) - 1)
  | 0, v, h, _ => by
    rw [m.ap_bit, if_pos (by simpa using h)]
    simp
    omega
  | k + 1, v, h, hl => by
    have h0 : v % 2 ≠ m.trig := by simpa using hl 0 (Nat.succ_pos k)
    rw [m.ap_bit, if_neg h0, m.ap_at k (v / 2) (by rw [← ediv_pow_succ]; exact h) fun j hj => by rw [← ediv_pow_succ]; exact hl (j + 1) (by omega)]
    rw [← ediv_pow_succ]
    have e : (2 : Int) ^ (k + 1 + 1) = 2 * 2 ^ (k + 1) := by rw [Int.pow_succ, Int.mul_comm]
    rw [e]
    generalize (2 : Int) ^ (k + 1) = p
    generalize v / (2 * p) = q
    have e1 : 2 * (q * p) = q * (2 * p) := by rw [Int.mul_left_comm]
    have e2 : 2 * (m.wr * (p - 1)) + m.wr = m.wr * (2 * p - 1) := by
      cases m <;> simp only [Mk.wr] <;> omega
    rw [Int.mul_add, e1]
    omega
/-- it never ends -/
theorem Mk.ap_never (m : Mk) : ∀ (n : Nat) (v : Int), v.natAbs ≤ n → (∀ j : Nat, v / 2 ^ j % 2 ≠ m.trig) → m.ap v = -m.wr
  | 0, v, hn, h => by
    have e : v = 0 := by omega
    subst e
    have h0 : (0 : Int) % 2 ≠ m.trig := by simpa using h 0
    have := m.ap_bit 0
    rw [if_neg h0] at this
    simp at this
    omega
  | n + 1, v, hn, h => by
    have h0 : v % 2 ≠ m.trig := by simpa using h 0
    have := m.ap_bit v
    rw [if_neg h0] at this
    by_cases e : v = 0 ∨ v = -1
    · have e2 : v / 2 = v := by omega
      rw [e2] at this
      omega
    · have ih := m.ap_never n (v / 2) (by omega) fun j => by rw [← ediv_pow_succ]; exact h (j + 1)
      rw [ih] at this
      omega
/-- its integer is below 2 ^ B -/
def Stp.lt (B : Nat) : Stp → Prop
  | .add k => k.natAbs < 2 ^ B
  | .mk _ => True
theorem Stp.ap_size (s : Stp) {B n : Nat} {v : Int} (hs : s.lt B) (hB : B ≤ n) (h : v.natAbs < 2 ^ n) : (s.ap v).natAbs < 2 ^ (n + 2) := by
  cases s with
  | mk m => exact m.ap_size h
  | add k =>
    have hk : k.natAbs < 2 ^ n := Nat.lt_of_lt_of_le hs (Nat.pow_le_pow_right (by decide) hB)
    show (v + k).natAbs < 2 ^ (n + 2)
    rw [Nat.pow_succ, Nat.pow_succ]
    omega
theorem run_size {B : Nat} : ∀ {l : List Stp} {m : Nat} {n : Int}, B ≤ m → (∀ s ∈ l, s.lt B) → n.natAbs < 2 ^ m → (run l n).natAbs < 2 ^ (m + 2 * l.length)
  | [], m, n, _, _, h => h
  | s :: l, m, n, hB, hl, h => by
    have h1 := s.ap_size (hl s List.mem_cons_self) hB h
    have h2 := run_size (l := l) (m := m + 2) (by omega) (fun t ht => hl t (List.mem_cons_of_mem _ ht)) h1
    rw [run_cons]
    have e : m + 2 + 2 * l.length = m + 2 * (s :: l).length := by rw [List.length_cons]; omega
    rw [← e]
    exact h2
end Lt
/-! what can be shown, how long its text is -/
namespace Lt
open PySem PySem.W
structure RpOk (p : PyData) (d n : Nat) : Prop where
  sh : p.showable = true
  hd : p.hasDict = false
  dp : p.depth ≤ d
  len : p.shown.length ≤ n
theorem RpOk.ok {p : PyData} {d n : Nat} (h : RpOk p d n) (hd : d ≤ 60) (hn : n ≤ sizeLine) : okRepr p := ⟨h.sh, h.hd, Nat.le_trans h.dp hd, Nat.le_trans h.len hn⟩
theorem RpOk.mono {p : PyData} {d n d' n' : Nat} (h : RpOk p d n) (hd : d ≤ d') (hn : n ≤ n') : RpOk p d' n' := ⟨h.sh, h.hd, Nat.le_trans h.dp hd, Nat.le_trans h.len hn⟩
theorem RpOk.int {v : Int} (h : v.natAbs < 2 ^ 1900) : RpOk (.int v) 0 2000 := by
  have hl : v.natAbs.log2 < 1920 := by
    by_cases h0 : v.natAbs = 0
    · rw [h0]; decide
    · have := (Nat.log2_lt h0).mpr h
      omega
  refine ⟨by simp [PyData.showable, hl], by simp [PyData.hasDict], by simp [PyData.depth], ?_⟩
  have := int_text_length_le (k := 1920) (by decide) hl
  show (Str.ofString (toString v)).length ≤ 2000
  rw [ofString_length]
  omega
theorem RpOk.none : RpOk .none 0 10 := ⟨rfl, rfl, by simp [PyData.depth], by simp only [PyData.shown]; decide⟩
theorem RpOk.bool (b : Bool) : RpOk (.bool b) 0 10 := ⟨by simp [PyData.showable], by simp [PyData.hasDict], by simp [PyData.depth], by simp only [PyData.shown]; cases b <;> decide⟩
theorem RpOk.str {x : Str} {n : Nat} (h : (reprText x).length ≤ n) : RpOk (.str x) 0 n := ⟨by simp [PyData.showable], by simp [PyData.hasDict], by simp [PyData.depth], by simpa only [PyData.shown] using h⟩
theorem RpOk.all {d n : Nat} : ∀ {xs : List PyData}, (∀ x ∈ xs, RpOk x d n) → PyData.showableAll xs = true ∧ PyData.hasDictAll xs = false ∧ PyData.depthAll xs ≤ d ∧ piled (PyData.shownAll xs) ≤ xs.length * (n + 2) ∧ (PyData.shownAll xs).length = xs.length
  | [], _ => ⟨rfl, rfl, by simp [PyData.depthAll], by simp [PyData.shownAll, piled], rfl⟩
  | x :: xs, h => by
    have h0 := h x List.mem_cons_self
    obtain ⟨h1, h2, h3, h4, h5⟩ := RpOk.all (xs := xs) fun y hy => h y (List.mem_cons_of_mem _ hy)
    refine ⟨by simp [PyData.showableAll, h0.sh, h1], by simp [PyData.hasDictAll, h0.hd, h2], ?_, ?_, by simp [PyData.shownAll, h5]⟩
    · have := h0.dp
      simp only [PyData.depthAll]
      omega
    · have := h0.len
      simp only [PyData.shownAll, List.length_cons]
      rw [piled_cons, Nat.add_mul]
      omega
theorem listText_le (ts : List Str) : (listText ts).length ≤ piled ts + 4 := by
  match ts with
  | [] => rw [listText_nil]; decide
  | t :: r =>
    have h := textFrom_length_pos r 1 (("[" : Str) ++ (if (0 : Nat) > 0 then ", " else "" : String) ++ t) (Nat.succ_pos 0)
    have e : ((("[" : Str) ++ (if (0 : Nat) > 0 then ", " else "" : String) ++ t)).length = 1 + t.length := by
      rw [strLen_append, strLen_append]; rfl
    have hX : (listText (t :: r)).length = (textFrom 1 (("[" : Str) ++ (if (0 : Nat) > 0 then ", " else "" : String) ++ t) r).length + 1 := by
      show (textFrom 0 "[" (t :: r) ++ "]").length = _
      rw [strLen_append]; rfl
    rw [hX, h, e, piled_cons]
    omega
theorem tupleText_le (ts : List Str) : (tupleText ts).length ≤ piled ts + 4 := by
  unfold tupleText
  rw [strLen_append, strLen_append]
  have e1 : ((("(" : String) : Str)).length = 1 := rfl
  have e3 : (((if ts.length == 1 then ",)" else ")" : String) : Str)).length ≤ 2 := by split <;> decide
  by_cases h : ts = []
  · subst h; decide
  · have := join_length_add ts h
    omega
theorem RpOk.list {xs : List PyData} {d n : Nat} (h : ∀ x ∈ xs, RpOk x d n) : RpOk (.list xs) (d + 1) (xs.length * (n + 2) + 4) := by
  obtain ⟨h1, h2, h3, h4, h5⟩ := RpOk.all h
  refine ⟨by simpa [PyData.showable] using h1, by simpa [PyData.hasDict] using h2, ?_, ?_⟩
  · simp only [PyData.depth]; omega
  · simp only [PyData.shown]
    exact Nat.le_trans (listText_le _) (by omega)
theorem RpOk.tuple {xs : List PyData} {d n : Nat} (h : ∀ x ∈ xs, RpOk x d n) : RpOk (.tuple xs) (d + 1) (xs.length * (n + 2) + 4) := by
  obtain ⟨h1, h2, h3, h4, h5⟩ := RpOk.all h
  refine ⟨by simpa [PyData.showable] using h1, by simpa [PyData.hasDict] using h2, ?_, ?_⟩
  · simp only [PyData.depth]; omega
  · simp only [PyData.shown]
    exact Nat.le_trans (tupleText_le _) (by omega)
/-! ### parts -/
open PyProof.Rows in
theorem cutD_to {α : Type} (xs : List α) (k : Nat) : cutD xs none (some (k : Int)) = xs.take k := by
  unfold cutD
  rw [HT.sIx_nat, HT.sIx_none, List.drop_zero, Nat.sub_zero, ← List.take_take, List.take_length]
open PyProof.Rows in
theorem cutD_from {α : Type} (xs : List α) (k : Nat) : cutD xs (some (k : Int)) none = xs.drop k := by
  unfold cutD
  rw [HT.sIx_nat, HT.sIx_none]
  rw [List.take_of_length_le (by rw [List.length_drop]; omega)]
  by_cases h : k ≤ xs.length
  · rw [Nat.min_eq_left h]
  · rw [Nat.min_eq_right (by omega), List.drop_length, List.drop_eq_nil_of_le (by omega)]
open PyProof.Rows in
theorem cutD_mid {α : Type} (xs : List α) (i j : Nat) (h : j ≤ xs.length) : cutD xs (some (i : Int)) (some (j : Int)) = (xs.drop i).take (j - i) := by
  unfold cutD
  rw [HT.sIx_nat, HT.sIx_nat, Nat.min_eq_left h]
  by_cases hi : i ≤ xs.length
  · rw [Nat.min_eq_left hi]
  · rw [Nat.min_eq_right (by omega), List.drop_length, List.drop_eq_nil_of_le (by omega)]
    simp
end Lt
namespace Lt
open PySem PySem.Spec PyProof.Rows L2
section
variable {X : Cx} {M0 : Wd} {H0 : Hp} {a b c e f o : Expr} {es : List Expr} {ta tb tc te tx to : DE} {t u : DT} {ts : DA} {pos apos cpos : Pos} {st : Stmt} {rest : List Stmt} {tS uS : DSt}
variable {K : PySem.W.Frag} {M W : Wd} {H : Hp}
/-- {..}.get(e, f) -/
def dGet (td te tx : DE) : DE := fun ds M Q => td ds M fun x M1 => match x with
  | .dct ks vs => te ds M1 fun y M2 => tx ds M2 fun z M3 => ∃ k, keyD y = some k ∧ Q ((findD k ks vs).getD z) M3
  | _ => False
theorem d_dctGet (hu : X.A.units + 1 < cLine) (ho : EE X M0 H0 o to) (he : EE X M0 H0 e te) (hf : EE X M0 H0 f tx)
    (h1 : attributeBase o "get" X.env (eval o X.env) = eval o X.env := by rfl)
    (h2 : ((backTo cpos (starEach [e, f] X.env)).all (fun x => !x.1) && (backToKw cpos (keywordEach [] X.env)).all (fun x => x.1.isSome)
    && decide (([e, f] : List Expr).length + ([] : List Keyword).length + (if ([] : List Keyword).isEmpty then 0 else 1) < 30)) = true := by rfl)
    (h3 : (apos.endLine == cpos.line) = true := by rfl) (h4 : backTo cpos (starEach [e, f] X.env) = [(false, eval e X.env), (false, eval f X.env)] := by rfl) :
    EE X M0 H0 (.Call (.Attribute o "get" apos) [e, f] [] cpos) (dGet to te tx) := by
  refine pe_imp (pe_dget2 hu ho he hf ⟨h1, h2, h3, h4⟩) fun σ H Q ⟨ds, M, Q', le, rm, rs, h, hq⟩ => ?_
  refine ⟨ds, M, _, le, rm, rs, h, fun d M1 v H1 q l1 rm1 r1 => ?_⟩
  cases d with
  | dct ks xs =>
    obtain ⟨p, vs, rfl, hp, hl, r⟩ := Rep.dct_iff.mp r1
    refine ⟨p, rfl, .inl ⟨_, .inl hp.2.2⟩, ds, M1, _, le.trans l1, rm1, rs.mono l1.w, q, fun y M2 w H2 q l2 rm2 r2 => ?_⟩
    refine ⟨ds, M2, _, (le.trans l1).trans l2, rm2, rs.mono (l1.trans l2).w, q, fun z M3 w3 H3 q l3 rm3 r3 => ?_⟩
    obtain ⟨k, e1, q⟩ := q
    obtain ⟨p', vs', e2, hp', hl', r'⟩ := Rep.dct_iff.mp (r1.mono (l2.trans l3).w)
    cases e2
    rw [keyD_rep r2 e1]
    refine ⟨_, DGet.k hp'.2.2, ?_⟩
    have fo := findD_ok (k := k) hl' r'
    cases ef : findD k ks xs with
    | none =>
      rw [ef] at fo q
      rw [show valV (ks.zip vs') k = none from fo]
      exact hq _ M3 _ _ q ((l1.trans l2).trans l3) rm3 r3
    | some dd =>
      rw [ef] at fo q
      obtain ⟨vv, e3, rv⟩ := fo
      rw [e3]
      exact hq _ M3 _ _ q ((l1.trans l2).trans l3) rm3 rv
  | _ => exact q.elim
theorem s_par3 {i j l : Nat} {x y z : Str} {px py pz pt : Pos} {kt k2 pt2} (hc : X.calm = true) (hN : X.N.Nodup) (hi : X.N[i]? = some x) (hj : X.N[j]? = some y) (hl : X.N[l]? = some z) (hij : i ≠ j) (hil : i ≠ l) (hjl : j ≠ l)
    (hx : X.env.scope.names.lookup x = some .local) (hy : X.env.scope.names.lookup y = some .local) (hz : X.env.scope.names.lookup z = some .local) (ha : EA X M0 H0 [a, b, c] ts)
    (hw : swappedStores [.Tuple [.Name x px, .Name y py, .Name z pz] kt pt] (.Tuple [a, b, c] k2 pt2) X.env = pure (some [x, y, z]))
    (hs : swapsWithSole [.Tuple [.Name x px, .Name y py, .Name z pz] kt pt] (.Tuple [a, b, c] k2 pt2) pos.line X.env = pure false := by rfl) :
    ES X M0 H0 (.Assign [.Tuple [.Name x px, .Name y py, .Name z pz] kt pt] (.Tuple [a, b, c] k2 pt2) pos) (sPar3 i j l ts) := by
  refine ps_imp (ps_par3 hc hN hi hj hl hij hil hjl hx hy hz ha hw hs) fun D σ H ⟨ds, M, D', le, rm, rs, h, hq⟩ => ?_
  refine ⟨ds, M, _, le, rm, rs, h, fun xs M' vs H' q l rm' r' => ?_⟩
  split at q
  · rename_i x y z
    match vs, r' with
    | [u, v, w], r' =>
      unfold Reps at r'
      obtain ⟨r1, r2⟩ := r'
      unfold Reps at r2
      obtain ⟨r2, r3⟩ := r2
      unfold Reps at r3
      exact ⟨u, v, w, rfl, hq.nx _ M' _ _ q l rm' ((((rs.mono l.w).set i r1).set j r2).set _ r3.1)⟩
    | [], r' => exact (by have := r'.len; simp at this)
    | [_], r' => exact (by have := r'.len; simp at this)
    | [_, _], r' => exact (by have := r'.len; simp at this)
    | _ :: _ :: _ :: _ :: _, r' => exact (by have := r'.len; simp at this)
  · exact q.elim
/-- a list of ours and a list: a new list of ours, the old one is let go -/
def rAddM : DR := fun x y M Q => match x, y with
  | .ref a, .lst ys => ∃ xs, M a = some (.lst xs) ∧ xs.length + ys.length ≤ sizeLine ∧ ∀ p, mrm M a p = none → Q (.ref p) (mup (mrm M a) p (.lst (xs ++ ys)))
  | _, _ => False
theorem o_addM : OpD X (binaryOp .Add) rAddM := by
  refine ⟨_, op_cat, fun x y M H Q' Q u v rm ru rv q hq => ?_⟩
  unfold rAddM at q
  split at q
  · rename_i a ys
    obtain ⟨xs, hm, hz, q⟩ := q
    rw [Rep.ref_iff] at ru
    obtain ⟨b, zs, rfl, hb, rb⟩ := Rep.lst_iff.mp rv
    obtain ⟨vs, e, ra⟩ := rm.o _ _ hm
    refine ⟨a, b, vs, zs, ru, rfl, e, hb.2.2, by rw [ra.len, rb.len]; exact hz, fun p hp => ?_⟩
    have l0 : Le M H ⟨mrm M.m a, M.s⟩ H := .rm
    have rm0 := rm.rm (a := a)
    have ln := Le.newM (o := .lst (vs ++ zs)) (mo := .lst (xs ++ ys)) rm0 hp
    have L := l0.trans ln
    exact hq _ ⟨mup (mrm M.m a) p (.lst (xs ++ ys)), M.s⟩ _ _ (q p (rm0.free hp)) L (rm0.newM hp ⟨_, upd_same, (ra.append rb).mono L.w⟩) (Rep.ref_iff.mpr rfl)
  · exact q.elim
end
end Lt
/-! enumerate over a tuple -/
namespace Lt
open PySem PySem.Spec PyProof.Rows L2
open Sem (wp)
section
open Builtin Builtin.Str
theorem new_enum1 {v : Value} {o : Obj} {C : Heap → Prop} (B : Begins v o C) :
    Meets (Builtin.«enumerate.__new__» ⟨[.type "enumerate", v], []⟩) (fun _ R s => C s.heap ∧
      R (.ok (.ret (.ref (s.heap.push o).objs.size))) { s with heap := (s.heap.push o).push { cls := .type "enumerate", data := .fields #[.none, .bool false, .ref s.heap.objs.size, rawInt 0, .none, .none] } }) :=
  .of_wp fun prog w A R s hc => by
    obtain ⟨hp, g, d, tk, os⟩ := s; obtain ⟨c1, hr⟩ := hc
    have hs0 := sub_enumerate
    have step : ∀ {A' : Around} {E : Value → Shared → Prop} {Q : Value → Shared → Prop}, Q (.ref hp.objs.size) ⟨hp.push o, g, d, tk, os⟩ → wpAny (model prog w) A' (pyIter v) Q E ⟨hp, g, d, tk, os⟩ :=
      fun q => B.iter prog w _ _ ⟨hp, g, d, tk, os⟩ _ c1 q
    wp_walk using step
    refine wpAny_stack_any fun st => wpAny_pure ?_
    split
    · rename_i c _ _ _ _ _
      cases (c == Value.type "enumerate")
      all_goals wp_walk using step; exact ⟨_, rfl, hr⟩
    · wp_walk using step
      exact ⟨_, rfl, hr⟩
end
/-- a tuple's items with their numbers, each in a new pair -/
def Itu (K : PySem.W.Frag) (a : Addr) : It :=
  ⟨fun i H => ∃ (vs : List V) (v : V), SqT K H a vs ∧ vs[i]? = some v,
    fun i H u H' => ∃ T v, u = .ref T ∧ H T = none ∧ H' = upd H T (.tup [.int (i : Nat), v]) ∧ ∀ vs, SqT K H a vs → vs[i]? = some v,
    fun i H => ∃ vs : List V, SqT K H a vs ∧ vs.length ≤ i⟩
theorem apart_ti {h : Heap} {a it : Addr} {i : Nat} {its : Array Value} (ht : h.IsTuple a its) (hi : h.IsTupleIter it a i) : a ≠ it := fun z => by
  obtain ⟨o, ho, hc, _⟩ := ht
  obtain ⟨o', ho', hc', _⟩ := hi
  rw [z, ho'] at ho
  cases ho
  rw [hc'] at hc
  exact absurd hc (by decide)
theorem apart_te {h : Heap} {a e it : Addr} {i : Int} {old : Value} {its : Array Value} (ht : h.IsTuple a its) (he : IsEnum h e it i old) : a ≠ e := fun z => by
  obtain ⟨o, ho, hc, _⟩ := ht
  rw [z, he] at ho
  cases ho
  have hc : Value.type "enumerate" = .type "tuple" := hc
  exact absurd hc (by decide)
theorem turn_enumT {P : Program} {w : World} {K : PySem.W.Frag} {elts : List Expr} {kk : Nat} {tpos : Pos} (a e it : Addr) :
    Turn P w K (.Tuple elts kk tpos) (Itu K a) [e, it] e (fun i h => (∃ old, IsEnum h e it ((i : Nat) : Int) old) ∧ h.IsTupleIter it a i ∧ e ≠ it) where
  mem := List.mem_cons_self
  obj := fun i h ⟨⟨old, he⟩, ⟨o, ho, _, hd⟩, _⟩ b hb => by
    rcases List.mem_cons.mp hb with rfl | hb
    · exact ⟨_, he, fun v q => nomatch q⟩
    · rw [List.mem_singleton.mp hb]
      exact ⟨o, ho, fun v q => by rw [hd] at q; cases q⟩
  keep := fun i h h' ⟨⟨old, he⟩, hi, hne⟩ k => ⟨⟨old, k e List.mem_cons_self _ he⟩, hi.at fun o q => k it (List.mem_cons_of_mem _ List.mem_cons_self) o q, hne⟩
  item := by
    intro X eP ew eK calm i pins s σ H E I fresh st go
    subst eP ew eK
    obtain ⟨⟨old, he⟩, hit, hne⟩ := st
    obtain ⟨vs, v, hq, hv⟩ := go
    obtain ⟨its, rv, p, hz⟩ := I.tuple hq
    have p : s.heap.IsTuple a its.toArray := p
    obtain ⟨u, hu, ru⟩ := rv.get hv
    have hlt : i < its.toArray.size := by
      have := (List.getElem?_eq_some_iff.mp hu).1
      simpa using this
    refine wpAny_pyNext_enum_itemD (Draws.tuple (A := X.A.in1) (I.ok.hd calm) it a (apart_ti p hit) its.toArray) he ⟨hit, p⟩ hlt hne (fun z => ?_) fun u2 h' tk hP ho hs' hT hsz hk => ?_
    · rcases List.mem_cons.mp z with z | z
      · exact hne z
      · exact apart_te p he (List.mem_singleton.mp z).symm
    have hP : its.toArray[i]? = some u2 := hP
    have e2 : u2 = u := by
      rw [List.getElem?_toArray, hu] at hP
      exact (Option.some.inj hP).symm
    subst e2
    have be : e < s.heap.objs.size := Heap.lt_size he
    have bi : it < s.heap.objs.size := by obtain ⟨_, q, _⟩ := hit; exact Heap.lt_size q
    refine ⟨_, rfl, wpAny_letOwnedTupleGo_enum (s := { s with heap := h', toks := tk + 1 }) ho fun h'' he' sb => ?_⟩
    have hT2 : h''.get? s.heap.objs.size = some { cls := .type "tuple", data := .seq #[.int i tk, u2] } := (sb.2 _ (Nat.ne_of_gt be)).trans hT
    have new : ObjOk X.prog X.w (upd H s.heap.objs.size (.tup [.int (i : Nat), v])) h'' s.heap.objs.size (.tup [.int (i : Nat), v]) :=
      ⟨(show 2 ≤ sizeLine by decide), [.int i tk, u2], .cons ⟨_, rfl⟩ (.cons ru .nil), ⟨_, hT2, rfl, _, rfl⟩⟩
    have kept : ∀ b ob, b ∉ [e, it] → s.heap.get? b = some ob → h''.get? b = some ob := fun b ob hb q =>
      (sb.2 b fun z => hb (by rw [z]; exact List.mem_cons_self)).trans (hk b ob (fun z => hb (by rw [z]; exact List.mem_cons_self)) (fun z => hb (by rw [z]; exact List.mem_cons_of_mem _ List.mem_cons_self)) q)
    have I1 : Inv X pins σ (upd H s.heap.objs.size (.tup [.int (i : Nat), v])) { s with heap := h'', toks := tk + 1 } := I.turnedNew (ch := [e, it]) kept fresh (Nat.le_refl _) new
    refine ⟨.ref s.heap.objs.size, _, I1, rfl, ⟨_, v, rfl, I.hok.fresh (Nat.le_refl _), rfl, fun ys hy => by rw [I.tuple_inj hy hq]; exact hv⟩, ⟨⟨u2, ?_⟩, hs'.1.at fun o q => (sb.2 it (Ne.symm hne)).trans q, hne⟩, fun b hb => ?_⟩
    · rw [show ((i + 1 : Nat) : Int) = (i : Int) + 1 by omega]
      exact he'
    · have hb' : b < s.heap.objs.size := by
        rcases List.mem_cons.mp hb with rfl | hb
        · exact be
        · rw [List.mem_singleton.mp hb]; exact bi
      rw [upd_ne (Nat.ne_of_lt hb')]
      exact (fresh b hb).1
  done := by
    intro X eP ew eK calm i pins s σ H E I fresh st stop
    subst eP ew eK
    obtain ⟨⟨old, he⟩, hit, hne⟩ := st
    obtain ⟨vs, hq, hx⟩ := stop
    obtain ⟨its, rv, p, hz⟩ := I.tuple hq
    have p : s.heap.IsTuple a its.toArray := p
    obtain ⟨f0, f1, f2, f3, f4, f5⟩ := fresh it (List.mem_cons_of_mem _ List.mem_cons_self)
    have hl := rv.length
    have D : Draws X.prog X.w X.A.in1 it [it, a] i (fun _ _ => True) (fun j h => j = i ∧ h.IsTupleIter it a i ∧ h.IsTuple a its.toArray) :=
      { live := fun j h st => let ⟨o, ho, _⟩ := st.2.1; ⟨o, ho⟩
        frame := fun j h h' st hk => ⟨st.1, st.2.1.at fun o q => hk it List.mem_cons_self o q, st.2.2.at fun o q => hk a (List.mem_cons_of_mem _ List.mem_cons_self) o q⟩
        item := fun j s Q E hj st _ => absurd st.1 (by omega)
        done := fun s Q E st hE => wpAny_nextOf_tuple_end (I.ok.hd calm) st.2.1 st.2.2 (by simp; omega) hE }
    exact wpAny_pyNext_enum_endD D he ⟨rfl, hit, p⟩ fun h' eb => ⟨rfl, I.turned (t' := s.toks) (fun b o hb q => eb b o hb q) f0 f1 f3 f4 f5⟩
  self := fun A i s Q E ⟨⟨_, he⟩, _⟩ h => wpAny_pyIter_enum he h
theorem call_enum1 {prog : Program} {w : World} {A : Around} {E : Value → Shared → Prop} {s : Shared} {v : Value} {o : Obj} {C : Heap → Prop} {Q : Value → Shared → Prop} (B : Begins v o C) (c : C s.heap)
    (hq : ∀ h', IsEnum h' (s.heap.objs.size + 1) s.heap.objs.size 0 .none → h'.get? s.heap.objs.size = some o → (∀ b ob, s.heap.get? b = some ob → h'.get? b = some ob) → Q (.ref (s.heap.objs.size + 1)) { s with heap := h' }) :
    wpAny (model prog w) A (call (.type "enumerate") [v]) Q E s := by
  refine callType_new PySem.F.called_enumerate (by decide) (PySem.F.typeCall_enumerate_1 _) (PySem.F.newCall_enumerate_1 _) (fun obj => PySem.F.args_object_init_2 obj _) PySem.F.entry_enumerate_new (new_enum1 B) ⟨c, ?_⟩
  have hz : (s.heap.push o).objs.size = s.heap.objs.size + 1 := Heap.size_push ..
  show _ ∧ _
  rw [hz]
  have he : IsEnum ((s.heap.push o).push { cls := .type "enumerate", data := .fields #[.none, .bool false, .ref s.heap.objs.size, rawInt 0, .none, .none] }) (s.heap.objs.size + 1) s.heap.objs.size 0 .none := by
    have g := Heap.get?_push_size (s.heap.push o) (o := { cls := .type "enumerate", data := .fields #[.none, .bool false, .ref s.heap.objs.size, rawInt 0, .none, .none] }) rfl
    rw [hz] at g; exact g
  exact ⟨⟨_, he, rfl⟩, hq _ he (Heap.get?_push_of_some _ (Heap.get?_push_size _ B.free)) fun b ob q => Heap.get?_push_of_some _ (Heap.get?_push_of_some _ q)⟩
section
variable {X : Cx} {M0 : Wd} {H0 : Hp} {a b c e f o : Expr} {te : DE} {pos apos cpos : Pos}
variable {K : PySem.W.Frag} {M W : Wd} {H : Hp}
def enumD (xs : List D) : List D := xs.mapIdx fun i d => .tup [.int (i : Nat), d]
theorem enumD_len (xs : List D) : (enumD xs).length = xs.length := List.length_mapIdx
theorem enumD_at {xs : List D} {i : Nat} {d : D} (h : (enumD xs)[i]? = some d) : ∃ e, xs[i]? = some e ∧ d = .tup [.int (i : Nat), e] := by
  unfold enumD at h
  rw [List.getElem?_mapIdx] at h
  cases hx : xs[i]? with
  | none => rw [hx] at h; cases h
  | some e => rw [hx] at h; exact ⟨e, rfl, (Option.some.inj h).symm⟩
theorem pair_new {M1 : Wd} {H1 : Hp} {T : Addr} {i : Nat} {v : V} {e : D} (rm : RelM K M1 H1) (hT : H1 T = none) (r : Rep K M1 H1 v e) :
    Le M1 H1 M1 (upd H1 T (.tup [.int (i : Nat), v])) ∧ RelM K M1 (upd H1 T (.tup [.int (i : Nat), v])) ∧ Rep K M1 (upd H1 T (.tup [.int (i : Nat), v])) (.ref T) (.tup [.int (i : Nat), e]) :=
  ⟨.new hT, rm.new hT, .tupN rm hT (.cons (Rep.int_iff.mpr rfl) (.cons r .nil))⟩
theorem walks_enumT {a : Addr} {vs : List V} {xs : List D} (h : ∀ M1 H1, Lw M H M1 H1 → SqT K H1 a vs) (r : Reps K M H vs xs) : Walks K M H (enumD xs) (Itu K a) := fun M1 H1 l rm i => by
  refine ⟨fun d hd => ?_, fun hi => ⟨vs, h M1 H1 l, by rw [r.len]; rw [enumD_len] at hi; exact hi⟩⟩
  obtain ⟨e, he, rfl⟩ := enumD_at hd
  obtain ⟨v, ev, rv⟩ := r.get he
  refine ⟨⟨vs, v, h M1 H1 l, ev⟩, fun x H2 y => ?_⟩
  obtain ⟨T, v2, rfl, hT, rfl, hy⟩ := y
  have e2 := hy vs (h M1 _ l)
  rw [ev] at e2; cases e2
  exact pair_new rm hT (rv.mono l)
theorem walks_enumL {a : Addr} {vs : List V} {xs : List D} (h : ∀ M1 H1, Lw M H M1 H1 → SqL K H1 a vs) (r : Reps K M H vs xs) : Walks K M H (enumD xs) (Ite K a) := fun M1 H1 l rm i => by
  refine ⟨fun d hd => ?_, fun hi => ⟨vs, h M1 H1 l, by rw [r.len]; rw [enumD_len] at hi; exact hi⟩⟩
  obtain ⟨e, he, rfl⟩ := enumD_at hd
  obtain ⟨v, ev, rv⟩ := r.get he
  refine ⟨⟨vs, v, h M1 H1 l, ev⟩, fun x H2 y => ?_⟩
  obtain ⟨T, v2, rfl, hT, rfl, hy⟩ := y
  have e2 := hy vs (h M1 _ l)
  rw [ev] at e2; cases e2
  exact pair_new rm hT (rv.mono l)
def iEnumD (te : DE) : DI := fun ds M Q => te ds M fun x M1 => match x with
  | .lst xs => Q (enumD xs) M1
  | .tup xs => Q (enumD xs) M1
  | _ => False
theorem i_enum {elts : List Expr} {kk : Nat} {tpos p : Pos} (hg : Gl X "enumerate") (hm : X.mg "enumerate" = none) (he : EE X M0 H0 e te) (hs : starEach [e] X.env = [(false, eval e X.env)] := by rfl) :
    EI X M0 H0 (.Tuple elts kk tpos) (.Call (.Name "enumerate" p) [e] [] pos) (iEnumD te) := by
  refine ⟨fun pins s σ H R I h => ?_⟩
  obtain ⟨ds, M, Q', le, rm, rs, h, hq⟩ := h
  refine Call_ (ld_blt I hg hm boot_enumerate (PyProof.Rows.callWith_type1 (thn ((pa_cons he pa_nil hs).run pos pins s σ H (fun vs H1 => ∃ v d M', vs = [v] ∧ Le M H M' H1 ∧ RelM X.K M' H1 ∧ Rep X.K M' H1 v d ∧ (match d with | .lst xs => Q' (enumD xs) M'.m | .tup xs => Q' (enumD xs) M'.m | _ => False)) I
    ⟨ds, M, _, le, rm, rs, h, fun d M' v H' q l rm' r' => ⟨v, d, M', rfl, l, rm', r', q⟩⟩) fun us s1 ⟨vs, H1, I1, r1, v, d, M', ev, l, rm', r', q⟩ => ?_) hs rfl))
  subst ev
  obtain ⟨u, rfl, ru⟩ := vals1 r1
  have two : ∀ b, b ∈ [s1.heap.objs.size + 1, s1.heap.objs.size] → s1.heap.objs.size ≤ b := fun b hb => by
    rcases List.mem_cons.mp hb with rfl | hb
    · exact Nat.le_add_right _ _
    · rw [List.mem_singleton.mp hb]; exact Nat.le_refl _
  cases d with
  | lst xs =>
    obtain ⟨a, vs, rfl, ha, r⟩ := Rep.lst_iff.mp r'
    obtain rfl : u = Value.ref a := ru
    obtain ⟨its, rv, p', hz⟩ := I1.list (ha.sq (K := X.K))
    refine call_enumerate_list p'.isList fun h' he hit hsz hk => wpAny_pyIter_enum he ?_
    exact ⟨s1.heap.objs.size + 1, [s1.heap.objs.size + 1, s1.heap.objs.size], _, _, H1, rfl, I1.kept (t' := s1.toks) hk, turn_enum a (s1.heap.objs.size + 1) s1.heap.objs.size, ⟨⟨.none, he⟩, hit, Nat.succ_ne_self _⟩,
      fun b hb => I1.fpOk (two b hb) (I1.hok.fresh (two b hb)), hq _ M' H1 _ q l rm' (walks_enumL (fun M1 H1 l => (ha.mono l).sq) r)⟩
  | tup xs =>
    obtain ⟨a, vs, rfl, ha, r⟩ := Rep.tup_iff.mp r'
    obtain rfl : u = Value.ref a := ru
    obtain ⟨its, rv, p', hz⟩ := I1.tuple ha.sq
    refine call_enum1 (begins_tuple a its.toArray) p' fun h' he hit hk => wpAny_pyIter_enum he ?_
    exact ⟨s1.heap.objs.size + 1, [s1.heap.objs.size + 1, s1.heap.objs.size], _, _, H1, rfl, I1.kept (t' := s1.toks) hk, turn_enumT a (s1.heap.objs.size + 1) s1.heap.objs.size, ⟨⟨.none, he⟩, ⟨_, hit, rfl, rfl⟩, Nat.succ_ne_self _⟩,
      fun b hb => I1.fpOk (two b hb) (I1.hok.fresh (two b hb)), hq _ M' H1 _ q l rm' (walks_enumT (fun M1 H1 l => (ha.mono l).sq) r)⟩
  | _ => exact q.elim
end
end Lt
/-! repr of a list of great integers -/
namespace Lt
open PySem PySem.Spec PyProof.Rows L2
section
variable {prog : Program} {w : World} {A : Around} {E : Value → Shared → Prop} {s : Shared}
theorem call_int_reprW {i : Int} {t : Tok} {Q : Value → Shared → Prop} (nd : s.heap.NoDigits) (lt : i.natAbs < 10 ^ 4300) (q : Q (.str (toString i) s.toks) { s with toks := s.toks + 1 }) :
    wpAny (model prog w) A (call (.builtin "int.__repr__") [.int i t]) Q E s := by
  refine wpAny_call_entry PySem.F.slot_int_repr (typeIs_int s i t) PySem.F.entry_int_repr ?_ (PySem.F.args_int_repr_1 _)
  unfold Builtin.«int.__repr__»
  show wpAny _ _ (do let r ← Builtin.overDigitLimit? i; _) _ _ s
  refine wpAny_bind (overDigitLimit_any nd (fun _ => ?_) (fun ge => absurd lt (Nat.not_lt.mpr ge)))
  exact wpAny_bind (wpAny_mkStr (wpAny_pure ⟨_, rfl, q⟩) (int_text_fits10 lt))
theorem reprK_intW {h0 : Heap} {as : List Addr} {d : Nat} {i : Int} {t : Tok} (nd : h0.NoDigits) (lt : i.natAbs < 10 ^ 4300) : ReprK prog w as h0 d (.int i t) (toString i) := by
  intro b hb A g E s Q _ _ hu keep q
  rw [pyReprUnder_leaf (v := .int i t) (by omega) (fun _ e => nomatch e)]
  unfold pyRepr
  refine wpAny_bind (wpAny_pyReprObj_slot (by omega) (typeIs_int s i t) PySem.F.slot_int_repr.toG (call_int_reprW (nd.keeps keep) lt ⟨_, _, rfl, ?_⟩))
  exact wpAny_pure (q s.heap _ fun _ _ e => e)
end
section
variable {X : Cx}
/-- the interpreter's bound of digits stands as it was -/
def NoDig (K : PySem.W.Frag) : Prop := PySem.W.nsIn K cStatics "sys.int_max_str_digits" = some none
theorem Inv_noDigits {pins : List (Addr × Obj)} {σ : L2.St} {H : Hp} {s : Shared} (nd : NoDig X.K) (I : Inv X pins σ H s) : s.heap.NoDigits := by
  obtain ⟨mc, hns, _⟩ := I.nolimit
  exact ⟨mc, hns, PySem.W.ns_none_of I.kIn hns nd⟩
def wideT (ns : List Int) : Str := listText (ns.map fun n => (toString n : String))
theorem vals_ints : ∀ {ns : List Int} {us : List Value} {i : Nat} {u : Value}, Vals (ns.map V.int) us → us[i]? = some u → ∃ n t, ns[i]? = some n ∧ u = .int n t
  | [], us, i, u, r, h => by cases r; simp at h
  | n :: ns, us, i, u, r, h => by
    cases r with
    | cons r1 r2 =>
      cases i with
      | zero =>
        obtain ⟨t, rfl⟩ := r1
        exact ⟨n, t, rfl, (Option.some.inj h).symm⟩
      | succ i => exact vals_ints (ns := ns) r2 h
theorem wideT_len {ns : List Int} (h : ∀ n ∈ ns, n.natAbs < 10 ^ 4300) (hl : ns.length ≤ 1000) : (wideT ns).length ≤ sizeLine := by
  have key : ∀ l : List Int, (∀ n ∈ l, n.natAbs < 10 ^ 4300) → piled (l.map fun n => Str.ofString (toString n)) ≤ l.length * 4303 := by
    intro l
    induction l with
    | nil => intro _; exact Nat.le_refl _
    | cons n l ih =>
      intro h
      have := int_text_length_le10 (k := 4300) (by decide) (h n List.mem_cons_self)
      have i2 := ih fun m hm => h m (List.mem_cons_of_mem _ hm)
      rw [List.map_cons, piled_cons, List.length_cons, PySem.ofString_length]
      omega
  have k := key ns h
  have l := listText_le (ns.map fun n => Str.ofString (toString n))
  have z : 1000 * 4303 + 4 ≤ sizeLine := by decide
  show (listText (ns.map fun n => Str.ofString (toString n))).length ≤ sizeLine
  omega
theorem call_reprW (nd : NoDig X.K) (hgd : X.A.guards = some []) (hu : X.A.units + 80 < cLine) : CallR X (.builtin "repr") (fun xs H Q => ∃ a n ns, xs = [.ref a] ∧ SqL X.K H a ((n :: ns).map V.int) ∧ ns.length < 1000 ∧ (∀ m ∈ n :: ns, m.natAbs < 10 ^ 4300) ∧ Q (.str (wideT (n :: ns))) H) := by
  intro pins s σ H xs us Q I r h
  obtain ⟨a, n, ns, rfl, hq, hl, hw, q⟩ := h
  obtain ⟨u, rfl, rx⟩ := vals1 r
  obtain rfl : u = Value.ref a := rx
  obtain ⟨its, rv, p, hz⟩ := I.list hq
  obtain ⟨oa, g1, g2, na, g3⟩ := p.isList
  match its, rv with
  | [], rv => cases rv
  | y :: ys, rv =>
    have nd' := Inv_noDigits nd I
    refine call_repr_slot (by omega) ⟨oa, g1, g2⟩ PySem.F.slot_list_repr.toG ?_
    refine call_list_reprK (as := []) (h₀ := s.heap) (d := 0) (ts := (n :: ns).map fun n => Str.ofString (toString n)) g1 g2 g3 (fun z => nomatch z) ?_ (fun i v hv => ?_) hgd (fun b _ => Clear.nil b) (by show X.A.units + 1 + (0 + 1) < cLine; omega) (fun _ _ e => e) (fun h' u tk keep => ?_) (wideT_len hw (by rw [List.length_cons]; omega))
    · have := rv.length
      simp at this ⊢
      omega
    · rw [List.getElem?_toArray] at hv
      obtain ⟨m, t, hm, rfl⟩ := vals_ints rv hv
      exact ⟨_, by rw [List.getElem?_map, hm]; rfl, reprK_intW nd' (hw m (List.mem_of_getElem? hm))⟩
    · exact ⟨_, _, rfl, .str _, H, I.kept keep, ⟨_, rfl⟩, q⟩
/-- repr of a list of integers of any size that Python shows -/
def cReprW : List D → Mp → DK → Prop := fun xs M Q => match xs with
  | [.lst ds] => ∃ n ns, ds = (n :: ns).map D.int ∧ ns.length < 1000 ∧ (∀ m ∈ n :: ns, m.natAbs < 10 ^ 4300) ∧ Q (.str (wideT (n :: ns))) M
  | _ => False
theorem c_reprW (nd : NoDig X.K) (hgd : X.A.guards = some []) (hu : X.A.units + 80 < cLine) : CallD X (.builtin "repr") cReprW := by
  refine ⟨_, call_reprW nd hgd hu, fun xs M H Q' Q vs rm rr q hq => ?_⟩
  unfold cReprW at q
  split at q
  · obtain ⟨v, rfl, r⟩ := rep1 rr
    obtain ⟨n, ns, rfl, hl, hw, q⟩ := q
    obtain ⟨p, ys, rfl, hp, r⟩ := Rep.lst_iff.mp r
    exact ⟨p, n, ns, rfl, by rw [← r.ints]; exact hp.sq, hl, hw, hq _ M _ _ q .refl rm (Rep.str_iff.mpr rfl)⟩
  · exact q.elim
end
end Lt
/-! texts: split, join -/
namespace Lt
open PySem PySem.Spec PyProof.Rows L2
section
variable {X : Cx} {M0 : Wd} {H0 : Hp} {e o : Expr} {te to : DE} {pos apos : Pos}
variable {K : PySem.W.Frag} {M W : Wd} {H : Hp}
theorem Reps.strs : ∀ {vs : List V} {ns : List Str}, Reps K M H vs (ns.map D.str) → vs = ns.map V.str
  | [], [], _ => rfl
  | [], _ :: _, h => by
    rw [List.map_cons] at h
    unfold Reps at h; exact h.elim
  | _ :: _, [], h => by
    rw [List.map_nil] at h
    unfold Reps at h; exact h.elim
  | v :: vs, n :: ns, h => by
    rw [List.map_cons] at h
    unfold Reps at h
    rw [List.map_cons, Rep.str_iff.mp h.1, Reps.strs h.2]
/-- x.split(sep): a new list -/
def dSplit (to te : DE) : DE := fun ds M Q => to ds M fun x M1 => match x with
  | .str a => te ds M1 fun y M2 => match y with
    | .str b => (b.length == 0) = false ∧ a.length + 2 ≤ sizeLine ∧ Q (.lst ((Txt.split a b).map D.str)) M2
    | _ => False
  | _ => False
theorem d_split (ho : EE X M0 H0 o to) (he : EE X M0 H0 e te) (hs : starEach [e] X.env = [(false, eval e X.env)] := by rfl) (hbase : attributeBase o "split" X.env (eval o X.env) = eval o X.env := by rfl) (hline : (apos.endLine == pos.line) = true := by rfl) :
    EE X M0 H0 (.Call (.Attribute o "split" apos) [e] [] pos) (dSplit to te) := by
  refine pe_imp (pe_split ho he hs hbase hline) fun σ H Q ⟨ds, M, Q', le, rm, rs, h, hq⟩ => ?_
  refine ⟨ds, M, _, le, rm, rs, h, fun d M1 v H1 q l1 rm1 r1 => ?_⟩
  cases d with
  | str a =>
    rw [Rep.str_iff] at r1
    subst r1
    refine ⟨⟨a, rfl⟩, ds, M1, _, le.trans l1, rm1, rs.mono l1.w, q, fun y M2 w H2 q l2 rm2 r2 => ?_⟩
    cases y with
    | str b =>
      rw [Rep.str_iff] at r2
      subst r2
      refine ⟨a, b, rfl, rfl, q.1, q.2.1, fun p hp => ?_⟩
      exact hq _ M2 _ _ q.2.2 ((l1.trans l2).trans (.new hp)) (rm2.new hp) (.lstN rm2 hp (Reps.map V.str D.str (fun _ => Rep.str_iff.mpr rfl) _))
    | _ => exact q.elim
  | _ => exact q.elim
/-- sep.join(texts) -/
def dJoin (to te : DE) : DE := fun ds M Q => to ds M fun x M1 => match x with
  | .str a => te ds M1 fun y M2 => ∃ ys : List Str, (y = .lst (ys.map D.str) ∨ y = .tup (ys.map D.str)) ∧ (ys.map (·.length)).sum + ys.length * a.length ≤ 16777216 ∧ Q (.str (Txt.join a ys)) M2
  | _ => False
theorem d_join (ho : EE X M0 H0 o to) (he : EE X M0 H0 e te) (hs : starEach [e] X.env = [(false, eval e X.env)] := by rfl) (hbase : attributeBase o "join" X.env (eval o X.env) = eval o X.env := by rfl) (hline : (apos.endLine == pos.line) = true := by rfl) :
    EE X M0 H0 (.Call (.Attribute o "join" apos) [e] [] pos) (dJoin to te) := by
  refine pe_imp (pe_join ho he hs hbase hline) fun σ H Q ⟨ds, M, Q', le, rm, rs, h, hq⟩ => ?_
  refine ⟨ds, M, _, le, rm, rs, h, fun d M1 v H1 q l1 rm1 r1 => ?_⟩
  cases d with
  | str a =>
    rw [Rep.str_iff] at r1
    subst r1
    refine ⟨⟨a, rfl⟩, ds, M1, _, le.trans l1, rm1, rs.mono l1.w, q, fun y M2 w H2 q l2 rm2 r2 => ?_⟩
    obtain ⟨ys, hy, hz, q⟩ := q
    rcases hy with rfl | rfl
    · obtain ⟨p, vs, rfl, hp, r⟩ := Rep.lst_iff.mp r2
      exact ⟨a, p, ys, rfl, rfl, .inl (by rw [← r.strs]; exact hp.sq), hz, hq _ M2 _ _ q (l1.trans l2) rm2 (Rep.str_iff.mpr rfl)⟩
    · obtain ⟨p, vs, rfl, hp, r⟩ := Rep.tup_iff.mp r2
      exact ⟨a, p, ys, rfl, rfl, .inr (by rw [← r.strs]; exact hp.sq), hz, hq _ M2 _ _ q (l1.trans l2) rm2 (Rep.str_iff.mpr rfl)⟩
  | _ => exact q.elim
end
end Lt
/-! dicts of ours: keys are ints or texts -/
namespace Lt
open PySem PySem.Spec PyProof.Rows L2
section
variable {X : Cx} {M0 : Wd} {H0 : Hp} {e f o : Expr} {te tx to : DE} {pos apos cpos : Pos}
variable {K : PySem.W.Frag} {M W : Wd} {H : Hp}
/-- {} -/
def dDctN : DE := fun _ M Q => ∀ p, M p = none → Q (.ref p) (mup M p (.dct [] []))
theorem d_dctN : EE X M0 H0 (.Dict [] [] pos) dDctN := by
  refine pe_imp pe_dnewK fun σ H Q ⟨ds, M, Q', le, rm, rs, h, hq⟩ p hp => ?_
  have ln := Le.newM (o := .dK []) (mo := .dct [] []) rm hp
  exact hq _ ⟨mup M.m p (.dct [] []), M.s⟩ _ _ (h p (rm.free hp)) ln (rm.newM hp ⟨[], upd_same, rfl, .nil⟩) (Rep.ref_iff.mpr rfl)
/-- d.get(k) -/
def dGet1 (td te : DE) : DE := fun ds M Q => td ds M fun x M1 => match x with
  | .ref a => (∃ ks vs, M1 a = some (.dct ks vs)) ∧ te ds M1 fun y M2 => ∃ ks vs k, M2 a = some (.dct ks vs) ∧ keyD y = some k ∧ Q ((findD k ks vs).getD .non) M2
  | .dct ks vs => te ds M1 fun y M2 => ∃ k, keyD y = some k ∧ Q ((findD k ks vs).getD .non) M2
  | _ => False
theorem d_get1M (hu : X.A.units + 1 < cLine) (ho : EE X M0 H0 o to) (he : EE X M0 H0 e te)
    (h1 : attributeBase o "get" X.env (eval o X.env) = eval o X.env := by rfl)
    (h2 : ((backTo cpos (starEach [e] X.env)).all (fun x => !x.1) && (backToKw cpos (keywordEach [] X.env)).all (fun x => x.1.isSome)
    && decide (([e] : List Expr).length + ([] : List Keyword).length + (if ([] : List Keyword).isEmpty then 0 else 1) < 30)) = true := by rfl)
    (h3 : (apos.endLine == cpos.line) = true := by rfl) (h4 : backTo cpos (starEach [e] X.env) = [(false, eval e X.env)] := by rfl) :
    EE X M0 H0 (.Call (.Attribute o "get" apos) [e] [] cpos) (dGet1 to te) := by
  refine pe_imp (pe_dget1 hu ho he ⟨h1, h2, h3, h4⟩) fun σ H Q ⟨ds, M, Q', le, rm, rs, h, hq⟩ => ?_
  refine ⟨ds, M, _, le, rm, rs, h, fun d M1 v H1 q l1 rm1 r1 => ?_⟩
  cases d with
  | ref a =>
    rw [Rep.ref_iff] at r1
    subst r1
    obtain ⟨⟨ks0, vs0, em0⟩, q⟩ := q
    obtain ⟨xs0, eh0, _, _⟩ := rm1.o _ _ em0
    refine ⟨a, rfl, .inl ⟨_, .inl eh0⟩, ds, M1, _, le.trans l1, rm1, rs.mono l1.w, q, fun y M2 w H2 q l2 rm2 r2 => ?_⟩
    obtain ⟨ks, vs, k, em, ek, q⟩ := q
    obtain ⟨xs, eh, el, r⟩ := rm2.o _ _ em
    rw [keyD_rep r2 ek]
    refine ⟨_, DGet.k eh, ?_⟩
    have fo := findD_ok (k := k) el r
    cases ef : findD k ks vs with
    | none =>
      rw [ef] at fo q
      rw [show valV (ks.zip xs) k = none from fo]
      exact hq _ M2 _ _ q (l1.trans l2) rm2 (Rep.non_iff.mpr rfl)
    | some dd =>
      rw [ef] at fo q
      obtain ⟨vv, e3, rv⟩ := fo
      rw [e3]
      exact hq _ M2 _ _ q (l1.trans l2) rm2 rv
  | dct ks vs =>
    obtain ⟨a, xs, rfl, ha, el, r⟩ := Rep.dct_iff.mp r1
    refine ⟨a, rfl, .inl ⟨_, .inl ha.2.2⟩, ds, M1, _, le.trans l1, rm1, rs.mono l1.w, q, fun y M2 w H2 q l2 rm2 r2 => ?_⟩
    obtain ⟨k, ek, q⟩ := q
    obtain ⟨a', xs', e2, ha', el', r'⟩ := Rep.dct_iff.mp (r1.mono l2.w)
    cases e2
    rw [keyD_rep r2 ek]
    refine ⟨_, DGet.k ha'.2.2, ?_⟩
    have fo := findD_ok (k := k) el' r'
    cases ef : findD k ks vs with
    | none =>
      rw [ef] at fo q
      rw [show valV (ks.zip xs') k = none from fo]
      exact hq _ M2 _ _ q (l1.trans l2) rm2 (Rep.non_iff.mpr rfl)
    | some dd =>
      rw [ef] at fo q
      obtain ⟨vv, e3, rv⟩ := fo
      rw [e3]
      exact hq _ M2 _ _ q (l1.trans l2) rm2 rv
  | _ => exact q.elim
theorem d_updateOf {pins : List (Addr × Obj)} {σ : L2.St} {H : Hp} {s : Shared} {a b : Addr} {kvs more : List (Key × V)} {A : Around} {E : Value → Shared → Prop} {Q : Value → Shared → Prop} (I : Inv X pins σ H s) (ea : H a = some (.dK kvs)) (eb : H b = some (.dK more)) (ne : a ≠ b) (hz : kvs.length + more.length ≤ sizeLine)
    (q : ∀ s', Inv X pins σ (upd H a (.dK (mergeK kvs more))) s' → Q .none s') : wpAny (model X.prog X.w) A (call (.builtin "dict.update") [.ref a, .ref b]) Q E s := by
  obtain ⟨z1, d1, vs1, r1, dd1⟩ := dk_of I.hok ea
  obtain ⟨z2, d2, vs2, r2, dd2⟩ := dk_of I.hok eb
  refine call_meetsIn PySem.F.slot_dict_update dd1.typeIs PySem.F.entry_dict_update (PySem.F.args_dict_update_2 _ _) (meets_dict_update (mixKind X.prog X.w) a b ne d2) ⟨vs1, vs2, dd1, dd2, (by rw [← r1.length, ← r2.length]; exact hz), fun h' hm _ hs => ?_⟩
  refine q _ ?_
  have he : ∃ ob, h'.get? a = some ob := let ⟨ob, _, _, ho, _⟩ := hm; ⟨ob, ho⟩
  exact d_write I (by rw [ea]; exact True.intro) hs he (dk_new (Nat.le_trans (length_mergeK more kvs) (by omega)) d1 (r2.merge r1) hm)
/-- d.update({..}), the new keys not yet there -/
def dUpd (td te : DE) : DE := fun ds M Q => td ds M fun x M1 => match x with
  | .ref a => (∃ ks vs, M1 a = some (.dct ks vs)) ∧ te ds M1 fun y M2 => match y with
    | .dct ks2 vs2 => ∃ ks vs, M2 a = some (.dct ks vs) ∧ (ks ++ ks2).Nodup ∧ ks.length = vs.length ∧ ks2.length = vs2.length ∧ ks.length + ks2.length ≤ sizeLine ∧ Q .non (mup M2 a (.dct (ks ++ ks2) (vs ++ vs2)))
    | _ => False
  | _ => False
theorem d_updM (ho : EE X M0 H0 o to) (he : EE X M0 H0 e te)
    (h1 : attributeBase o "update" X.env (eval o X.env) = eval o X.env := by rfl)
    (h2 : ((backTo cpos (starEach [e] X.env)).all (fun x => !x.1) && (backToKw cpos (keywordEach [] X.env)).all (fun x => x.1.isSome)
    && decide (([e] : List Expr).length + ([] : List Keyword).length + (if ([] : List Keyword).isEmpty then 0 else 1) < 30)) = true := by rfl)
    (h3 : (apos.endLine == cpos.line) = true := by rfl) (h4 : backTo cpos (starEach [e] X.env) = [(false, eval e X.env)] := by rfl) :
    EE X M0 H0 (.Call (.Attribute o "update" apos) [e] [] cpos) (dUpd to te) := by
  refine ⟨fun pins s σ H Q I h => ?_⟩
  obtain ⟨ds, M, Q', le, rm, rs, h, hq⟩ := h
  refine wpAny_Call_method h1 h2 h3 PySem.F.plainAttrs_dict PySem.F.slot_dict_update PySem.F.type_dict_update (thn (ho.run pins s σ H (fun x H1 => ∃ a M1, x = .ref a ∧ Le M H M1 H1 ∧ RelM X.K M1 H1 ∧ (∃ ks vs, M1.m a = some (.dct ks vs)) ∧ te ds M1.m fun y M2 => match y with
      | .dct ks2 vs2 => ∃ ks vs, M2 a = some (.dct ks vs) ∧ (ks ++ ks2).Nodup ∧ ks.length = vs.length ∧ ks2.length = vs2.length ∧ ks.length + ks2.length ≤ sizeLine ∧ Q' .non (mup M2 a (.dct (ks ++ ks2) (vs ++ vs2)))
      | _ => False) I ⟨ds, M, _, le, rm, rs, h, fun d M1 v H1 q l rm1 r1 => ?_⟩) fun u s1 ⟨x, H1, I1, rx, a, M1, ex, l1, rm1, ⟨ks0, vs0, em0⟩, q1⟩ => ?_)
  · cases d with
    | ref a =>
      rw [Rep.ref_iff] at r1
      exact ⟨a, M1, r1, l, rm1, q.1, q.2⟩
    | _ => exact q.elim
  · subst ex
    obtain rfl : u = Value.ref a := rx
    obtain ⟨xs0, eh0, _, _⟩ := rm1.o _ _ em0
    obtain ⟨t1, t2, _⟩ := isD_at I1 (.inl ⟨_, .inl eh0⟩)
    refine ⟨t1, t2, ?_⟩
    rw [h4]
    refine Calls.callWith_builtin rfl (Calls.evalArgs_plain (Calls.spliced_cons (thn (he.run pins s1 σ H1 (fun y H2 => ∃ b ks2 vs2 M2 ks vs ys, y = .ref b ∧ Le M1 H1 M2 H2 ∧ RelM X.K M2 H2 ∧ M2.m b = none ∧ H2 b = some (.dK (ks2.zip ys)) ∧ ys.length = ks2.length ∧ Reps X.K M2 H2 ys vs2 ∧
        M2.m a = some (.dct ks vs) ∧ (ks ++ ks2).Nodup ∧ ks.length = vs.length ∧ ks2.length = vs2.length ∧ ks.length + ks2.length ≤ sizeLine ∧ Q' .non (mup M2.m a (.dct (ks ++ ks2) (vs ++ vs2)))) I1 ⟨ds, M1, _, le.trans l1, rm1, rs.mono l1.w, q1, fun d M2 v H2 q l rm2 r2 => ?_⟩) fun iv s2 ⟨y, H2, I2, ry, b, ks2, vs2, M2, ks, vs, ys, ey, l2, rm2, hb0, hb, hyl, r2, ha, hn, hl1, hl2, hz, q2⟩ => Calls.spliced_nil ?_)))
    · cases d with
      | dct ks2 vs2 =>
        obtain ⟨b, ys, rfl, hb, hyl, r⟩ := Rep.dct_iff.mp r2
        obtain ⟨ks, vs, c1, c2, c3, c4, c5, q⟩ := q
        exact ⟨b, ks2, vs2, M2, ks, vs, ys, rfl, l, rm2, hb.1, hb.2.2, hyl, r, c1, c2, c3, c4, c5, q⟩
      | _ => exact q.elim
    · subst ey
      obtain rfl : iv = Value.ref b := ry
      obtain ⟨xs, eh, el, r⟩ := rm2.o _ _ ha
      have ne : a ≠ b := fun z => by rw [z, hb0] at ha; cases ha
      have hk : ((ks.zip xs).map (·.1) ++ (ks2.zip ys).map (·.1)) = ks ++ ks2 := by
        rw [List.map_fst_zip (by omega), List.map_fst_zip (by omega)]
      refine d_updateOf I2 eh hb ne (by rw [List.length_zip, List.length_zip]; omega) fun s3 I3 => ?_
      rw [mergeK_nodup (by rw [hk]; exact hn)] at I3
      have ez : ks.zip xs ++ ks2.zip ys = (ks ++ ks2).zip (xs ++ ys) := (List.zip_append el.symm).symm
      rw [ez] at I3
      have lp := Le.put (o := .dK ((ks ++ ks2).zip (xs ++ ys))) (mo := .dct (ks ++ ks2) (vs ++ vs2)) (H := H2) ha
      exact ⟨.non, _, I3, rfl, hq _ ⟨mup M2.m a (.dct (ks ++ ks2) (vs ++ vs2)), M2.s⟩ _ _ q2 ((l1.trans l2).trans lp) (rm2.put ha ⟨_, upd_same, by rw [List.length_append, List.length_append, el, hyl], (r.append r2).mono lp.w⟩) (Rep.non_iff.mpr rfl)⟩
end
/-! ### {k: v for ..}: keys are ints or texts, none of them twice -/
def dDcomp (g : Tg) (tt : DT) (tk te : DE) (own : List Nat) (ds : DS) : List D → Mp → List Key → List D → DK → Prop
  | [], M, ks, vs, Q => Q (.dct ks vs) M
  | x :: r, M, ks, vs, Q => dTg g x (dwipe ds own) fun ds1 => tt ds1 M fun b M2 => if b = true then tk ds1 M2 fun y M3 => te ds1 M3 fun z M4 => ∃ k, keyD y = some k ∧ k ∉ ks ∧ ks.length < sizeLine ∧ dDcomp g tt tk te own ds r M4 (ks ++ [k]) (vs ++ [z]) Q else dDcomp g tt tk te own ds r M2 ks vs Q
def dDc (wi : DI) (g : Tg) (tt : DT) (tk te : DE) (own : List Nat) : DE := fun ds M Q => wi ds M fun items M1 => dDcomp g tt tk te own ds items M1 [] [] Q
structure DcAt (K : PySem.W.Frag) (M1 : Wd) (H1 : Hp) (p : Addr) (ks : List Key) (acc : List D) (m : Mp) (H : Hp) : Prop where
  le : Le M1 H1 ⟨m, M1.s⟩ H
  rm : RelM K ⟨m, hid M1.s p⟩ H
  ac : ∃ vs, H p = some (.dK (ks.zip vs)) ∧ vs.length = ks.length ∧ Reps K ⟨m, hid M1.s p⟩ H vs acc
section
variable {X : Cx} {M0 : Wd} {H0 : Hp} {K : PySem.W.Frag} {H : Hp}
theorem DcAt.lw {p : Addr} {ks : List Key} {acc : List D} {m : Mp} {M1 : Wd} {H1 : Hp} (l : DcAt K M1 H1 p ks acc m H) (hp : H1 p = none) : Lw M1 H1 ⟨m, hid M1.s p⟩ H := fun a o h1 h2 h3 =>
  ⟨(l.le.1 a o h1 h3).1, fun z => z.elim h2 (ne_of_none h3 hp), (l.le.1 a o h1 h3).2⟩
theorem DcAt.start {M1 : Wd} {H1 : Hp} {p : Addr} (rm : RelM K M1 H1) (hp : H1 p = none) : DcAt K M1 H1 p [] [] M1.m (upd H1 p (.dK [])) := by
  have lw : Lw M1 H1 ⟨M1.m, hid M1.s p⟩ (upd H1 p (.dK [])) := fun a o h1 h2 h3 => ⟨h1, fun z => z.elim h2 (ne_of_none h3 hp), by rw [upd_ne (ne_of_none h3 hp)]; exact h3⟩
  refine ⟨.new hp, ⟨fun a o e => ?_, fun a z => ?_⟩, [], upd_same, rfl, .nil⟩
  · have ne : a ≠ p := fun z => by rw [z] at e; have := rm.free hp; rw [this] at e; cases e
    exact (rm.o a o e).mono lw (upd_ne ne)
  · rcases z with z | rfl
    · obtain ⟨h1, o, e⟩ := rm.h a z
      exact ⟨h1, o, by rw [upd_ne (ne_of_none e hp)]; exact e⟩
    · exact ⟨rm.free hp, _, upd_same⟩
theorem DcAt.step {M1 : Wd} {H1 H' : Hp} {p : Addr} {ks : List Key} {acc : List D} {m : Mp} {M' : Wd} (l : DcAt K M1 H1 p ks acc m H) (le : Le ⟨m, hid M1.s p⟩ H M' H') (rm : RelM K M' H') : M' = ⟨M'.m, hid M1.s p⟩ ∧ DcAt K M1 H1 p ks acc M'.m H' := by
  have es : M' = ⟨M'.m, hid M1.s p⟩ := by have := le.2; cases M'; simp at this ⊢; exact this
  refine ⟨es, ⟨⟨fun a o h1 h2 => ?_, rfl⟩, es ▸ rm, ?_⟩⟩
  · obtain ⟨e1, e2⟩ := l.le.1 a o h1 h2
    exact le.1 a o e1 e2
  · obtain ⟨vs, e, el, r⟩ := l.ac
    have hp := (l.rm.h p (.inr rfl)).1
    exact ⟨vs, (le.1 p _ hp e).2, el, es ▸ r.mono le.w⟩
theorem DcAt.add {M1 : Wd} {H1 : Hp} {p : Addr} {ks : List Key} {acc : List D} {m : Mp} {v : V} {y : D} {k : Key} (l : DcAt K M1 H1 p ks acc m H) (hp : H1 p = none) (hk : k ∉ ks) (r : Rep K ⟨m, hid M1.s p⟩ H v y) :
    ∃ kvs, H p = some (.dK kvs) ∧ kvs.length = ks.length ∧ DcAt K M1 H1 p (ks ++ [k]) (acc ++ [y]) m (upd H p (.dK (putK kvs k v))) := by
  obtain ⟨vs, e, el, ra⟩ := l.ac
  have e1 : putK (ks.zip vs) k v = (ks ++ [k]).zip (vs ++ [v]) := by
    rw [Lt.putK_new (by rw [List.map_fst_zip (by omega)]; exact hk), List.zip_append el.symm]
    rfl
  have lw : Lw ⟨m, hid M1.s p⟩ H ⟨m, hid M1.s p⟩ (upd H p (.dK (putK (ks.zip vs) k v))) := fun a o h1 h2 h3 => ⟨h1, h2, by rw [upd_ne fun z => h2 (.inr z)]; exact h3⟩
  refine ⟨_, e, by rw [List.length_zip]; omega, ⟨fun a o h1 h2 => ?_, rfl⟩, ⟨fun a o ea => ?_, fun a z => ?_⟩, vs ++ [v], by rw [upd_same, e1], by rw [List.length_append, List.length_append, el]; rfl, (ra.append (.cons r .nil)).mono lw⟩
  · rw [upd_ne (ne_of_none h2 hp)]
    exact l.le.1 a o h1 h2
  · have ne : a ≠ p := fun z => by rw [z] at ea; have := (l.rm.h p (.inr rfl)).1; rw [this] at ea; cases ea
    exact (l.rm.o a o ea).mono lw (upd_ne ne)
  · obtain ⟨h1, o, e2⟩ := l.rm.h a z
    by_cases ne : a = p
    · subst ne; exact ⟨h1, _, upd_same⟩
    · exact ⟨h1, o, by rw [upd_ne ne]; exact e2⟩
theorem wipe_twice (σ : L2.St) (vs : List Nat) : L2.wipe (L2.wipe σ vs) vs = L2.wipe σ vs := by
  have aux : ∀ (vs ws : List Nat) (σ : L2.St), (∀ i ∈ vs, i ∈ ws) → L2.wipe (L2.wipe σ vs) ws = L2.wipe σ ws := by
    intro vs
    induction vs with
    | nil => intro ws σ _; rfl
    | cons v vs ih =>
      intro ws σ hs
      show L2.wipe ((L2.wipe σ vs).set v none) ws = _
      rw [wipe_set (hs v List.mem_cons_self)]
      exact ih ws σ fun i hi => hs i (List.mem_cons_of_mem _ hi)
  exact aux vs vs σ fun _ h => h
theorem tDc_l {wi : DI} {g : Tg} {tt : DT} {tk te : DE} {own : List Nat} (ho : ∀ i ∈ g.slots, i ∈ own) {σ : L2.St} {H : Hp} {Q : VK} (h : lE K M0 H0 (dDc wi g tt tk te own) σ H Q) :
    tDc (lI K M0 H0 wi) (hTg K g) (fun σ H Q => ∃ B : Wd × Hp, lT K B.1 B.2 tt σ H Q) (fun σ H Q => ∃ B : Wd × Hp, lE K B.1 B.2 tk σ H Q) (fun σ H Q => ∃ B : Wd × Hp, lE K B.1 B.2 te σ H Q) own σ H Q := by
  obtain ⟨ds, M, Q', le, rm, rs, h, hq⟩ := h
  refine ⟨ds, M, _, le, rm, rs, h, fun items M1 H1 J q l1 rm1 wk p hp => ?_⟩
  refine ⟨fun i m H2 => m = items.length - i ∧ i ≤ items.length ∧ ∃ ks acc m2, DcAt K M1 H1 p ks acc m2 H2 ∧ dDcomp g tt tk te own ds (items.drop i) m2 ks acc Q', ⟨_, rfl, Nat.zero_le _, [], [], M1.m, .start rm1 hp, q⟩, ?_⟩
  rintro i m H2 ⟨rfl, hi, ks, acc, m2, at2, q2⟩
  obtain ⟨w1, w2⟩ := wk ⟨m2, hid M1.s p⟩ H2 (at2.lw hp) at2.rm i
  by_cases hlt : i < items.length
  · obtain ⟨go, y⟩ := w1 items[i] (List.getElem?_eq_getElem hlt)
    refine .inr ⟨go, fun H' => ∃ ks acc m2, DcAt K M1 H1 p ks acc m2 H' ∧ dDcomp g tt tk te own ds (items.drop (i + 1)) m2 ks acc Q', fun H' n => ⟨_, by omega, rfl, hlt, n⟩, fun x H' hy => ?_⟩
    obtain ⟨l3, rm3, r3⟩ := y x H' hy
    obtain ⟨_, at3⟩ := at2.step l3 rm3
    rw [List.drop_eq_getElem_cons hlt] at q2
    have rs3 : RelS K ⟨m2, hid M1.s p⟩ H' σ ds := (rs.mono l1.w).mono (at3.lw hp)
    refine hTg_ok r3 (rs3.wipe own) q2 fun σ' ds' k rs' hw => ⟨by rw [hw own ho]; exact wipe_twice σ own, ?_⟩
    refine ⟨(⟨m2, hid M1.s p⟩, H'), ds', ⟨m2, hid M1.s p⟩, _, .refl, rm3, rs', k, fun b M4 H4 q4 l4 rm4 => ?_⟩
    obtain ⟨e4, at4⟩ := at3.step l4 rm4
    cases b with
    | true =>
      refine iteT ⟨(M4, H4), ds', M4, _, .refl, rm4, rs'.mono l4.w, uT q4, fun y M5 v5 H5 q5 l5 rm5 r5 => ?_⟩
      refine ⟨(M5, H5), ds', M5, _, .refl, rm5, (rs'.mono l4.w).mono l5.w, q5, fun z M6 v6 H6 q6 l6 rm6 r6 => ?_⟩
      obtain ⟨kk, ek, hnk, hz, q6⟩ := q6
      rw [e4] at l5
      obtain ⟨e5, at5⟩ := at4.step l5 rm5
      rw [e5] at l6
      obtain ⟨e6, at6⟩ := at5.step l6 rm6
      rw [e6] at r6
      obtain ⟨kvs, ev, el, at7⟩ := at6.add hp hnk r6
      exact ⟨kvs, kk, keyD_rep r5 ek, ev, by rw [el]; exact hz, _, _, _, at7, q6⟩
    | false => exact iteF ⟨_, _, _, at4, uF q4⟩
  · have e : i = items.length := by omega
    subst e
    rw [List.drop_length] at q2
    refine .inl ⟨w2 (Nat.le_refl _), ?_⟩
    obtain ⟨vs, ev, el, r⟩ := at2.ac
    have hpm := (at2.rm.h p (.inr rfl)).1
    refine hq _ ⟨m2, M1.s⟩ _ _ q2 (l1.trans at2.le) ⟨fun a o ea => (at2.rm.o a o ea).mono hid_lw rfl, fun a z => at2.rm.h a (.inl z)⟩ (Rep.dct_iff.mpr ⟨p, vs, rfl, ⟨hpm, rm1.vis hp, ev⟩, el, r.mono hid_lw⟩)
theorem d_dc {kx vx tg iter : Expr} {ifs : List Expr} {scope : Scope} {own : List (Str × Nat)} {pos : Pos} {wi : DI} {g : Tg} {tt : DT} {tk te : DE} (hc : X.calm = true) (hN : X.N.Nodup) (hi : EI X M0 H0 tg iter wi) (ok : BlkOk X.N X.env.scope scope own)
    (hg : ∀ (s : Shared) (H : Hp) (C : Addr) (cl : List (Str × Addr)) (fp : List Addr), EG (X.blk s H scope (compEnvC scope cl C X.env) fp) tg g)
    (ht : ∀ (M0 : Wd) (H0 : Hp) (s : Shared) (H : Hp) (C : Addr) (cl : List (Str × Addr)) (fp : List Addr), ETs (X.blk s H scope (compEnvC scope cl C X.env) fp) M0 H0 ifs tt)
    (hk : ∀ (M0 : Wd) (H0 : Hp) (s : Shared) (H : Hp) (C : Addr) (cl : List (Str × Addr)) (fp : List Addr), EE (X.blk s H scope (compEnvC scope cl C X.env) fp) M0 H0 kx tk)
    (he : ∀ (M0 : Wd) (H0 : Hp) (s : Shared) (H : Hp) (C : Addr) (cl : List (Str × Addr)) (fp : List Addr), EE (X.blk s H scope (compEnvC scope cl C X.env) fp) M0 H0 vx te)
    (ho : ∀ i ∈ g.slots, i ∈ own.map (·.2) := by decide) (hs : ∀ x, foldedSetIterable iter X.env x = pure x := by intro _; rfl) :
    EE X M0 H0 (.DictComp kx vx [⟨tg, iter, ifs, 0⟩] scope pos) (dDc wi g tt tk te (own.map (·.2))) :=
  pe_imp (pe_dc (g := hTg X.K g) hc hN hi ok hg (fun s H C cl fp => pts_ex (t := fun B : Wd × Hp => lT X.K B.1 B.2 tt) fun B => ht B.1 B.2 s H C cl fp) (fun s H C cl fp => pe_ex (t := fun B : Wd × Hp => lE X.K B.1 B.2 tk) fun B => hk B.1 B.2 s H C cl fp) (fun s H C cl fp => pe_ex (t := fun B : Wd × Hp => lE X.K B.1 B.2 te) fun B => he B.1 B.2 s H C cl fp) hs) fun σ H Q h => tDc_l ho h
/-! ### a comprehension's list that may change from then on -/
def dCompM (g : Tg) (tt : DT) (te : DE) (own : List Nat) (ds : DS) : List D → Mp → List D → DK → Prop
  | [], M, acc, Q => (∀ p, M p = none → Q (.ref p) (mup M p (.lst acc))) ∨ Q (.lst acc) M
  | x :: r, M, acc, Q => dTg g x (dwipe ds own) fun ds1 => tt ds1 M fun b M2 => if b = true then te ds1 M2 fun y M3 => acc.length < sizeLine ∧ dCompM g tt te own ds r M3 (acc ++ [y]) Q else dCompM g tt te own ds r M2 acc Q
/-- the same reading by that of a list that is never changed -/
theorem dCompM_of {g : Tg} {tt : DT} {te : DE} {own : List Nat} {ds : DS} {items : List D} {M : Mp} {Q : DK} (P : Nat → List D → Mp → Prop) (h0 : P 0 [] M)
    (hs : ∀ i x acc M (R : List D → Mp → Prop), items[i]? = some x → P i acc M → (∀ acc' M', P (i + 1) acc' M' → R acc' M') →
      dTg g x (dwipe ds own) fun ds1 => tt ds1 M fun b M2 => if b = true then te ds1 M2 fun y M3 => acc.length < PySem.sizeLine ∧ R (acc ++ [y]) M3 else R acc M2)
    (hd : ∀ acc M, P items.length acc M → (∀ p, M p = none → Q (.ref p) (mup M p (.lst acc))) ∨ Q (.lst acc) M) : dCompM g tt te own ds items M [] Q := by
  have key : ∀ (l : List D) (i : Nat) (acc : List D) (M : Mp), l = items.drop i → i + l.length = items.length → P i acc M → dCompM g tt te own ds l M acc Q := by
    intro l
    induction l with
    | nil => intro i acc M _ e p; rw [List.length_nil, Nat.add_zero] at e; exact hd acc M (e ▸ p)
    | cons d l ih =>
      intro i acc M e el p
      rw [List.length_cons] at el
      have hi : i < items.length := by omega
      rw [List.drop_eq_getElem_cons hi] at e
      injection e with e1 e2
      exact hs i d acc M (fun acc' M' => dCompM g tt te own ds l M' acc' Q) (by rw [e1]; exact List.getElem?_eq_getElem hi) p fun acc M p => ih (i + 1) acc M e2 (by omega) p
  exact key items 0 [] M rfl (by omega) h0
def dLcM (wi : DI) (g : Tg) (tt : DT) (te : DE) (own : List Nat) : DE := fun ds M Q => wi ds M fun items M1 => dCompM g tt te own ds items M1 [] Q
theorem tLcM_l {wi : DI} {g : Tg} {tt : DT} {te : DE} {own : List Nat} (ho : ∀ i ∈ g.slots, i ∈ own) {σ : L2.St} {H : Hp} {Q : VK} (h : lE K M0 H0 (dLcM wi g tt te own) σ H Q) :
    tLc (lI K M0 H0 wi) (hTg K g) (fun σ H Q => ∃ B : Wd × Hp, lT K B.1 B.2 tt σ H Q) (fun σ H Q => ∃ B : Wd × Hp, lE K B.1 B.2 te σ H Q) own σ H Q := by
  obtain ⟨ds, M, Q', le, rm, rs, h, hq⟩ := h
  refine ⟨ds, M, _, le, rm, rs, h, fun items M1 H1 J q l1 rm1 wk p hp => ?_⟩
  refine ⟨fun i m H2 => m = items.length - i ∧ i ≤ items.length ∧ ∃ acc m2, LcAt K M1 H1 p acc m2 H2 ∧ dCompM g tt te own ds (items.drop i) m2 acc Q', ⟨_, rfl, Nat.zero_le _, [], M1.m, .start rm1 hp, q⟩, ?_⟩
  rintro i m H2 ⟨rfl, hi, acc, m2, at2, q2⟩
  obtain ⟨w1, w2⟩ := wk ⟨m2, hid M1.s p⟩ H2 (at2.lw hp) at2.rm i
  by_cases hlt : i < items.length
  · obtain ⟨go, y⟩ := w1 items[i] (List.getElem?_eq_getElem hlt)
    refine .inr ⟨go, fun H' => ∃ acc m2, LcAt K M1 H1 p acc m2 H' ∧ dCompM g tt te own ds (items.drop (i + 1)) m2 acc Q', fun H' n => ⟨_, by omega, rfl, hlt, n⟩, fun x H' hy => ?_⟩
    obtain ⟨l3, rm3, r3⟩ := y x H' hy
    obtain ⟨_, at3⟩ := at2.step l3 rm3
    rw [List.drop_eq_getElem_cons hlt] at q2
    have rs3 : RelS K ⟨m2, hid M1.s p⟩ H' σ ds := (rs.mono l1.w).mono (at3.lw hp)
    refine hTg_ok r3 (rs3.wipe own) q2 fun σ' ds' k rs' hw => ⟨by rw [hw own ho]; exact wipe_twice σ own, ?_⟩
    refine ⟨(⟨m2, hid M1.s p⟩, H'), ds', ⟨m2, hid M1.s p⟩, _, .refl, rm3, rs', k, fun b M4 H4 q4 l4 rm4 => ?_⟩
    obtain ⟨e4, at4⟩ := at3.step l4 rm4
    cases b with
    | true =>
      refine iteT ⟨(M4, H4), ds', M4, _, .refl, rm4, rs'.mono l4.w, uT q4, fun y M5 v5 H5 q5 l5 rm5 r5 => ?_⟩
      rw [e4] at l5
      obtain ⟨e5, at5⟩ := at4.step l5 rm5
      rw [e5] at r5
      obtain ⟨vs, ev, el, at6⟩ := at5.add hp r5
      exact ⟨vs, ev, by rw [el]; exact q5.1, _, _, at6, q5.2⟩
    | false => exact iteF ⟨_, _, at4, uF q4⟩
  · have e : i = items.length := by omega
    subst e
    rw [List.drop_length] at q2
    refine .inl ⟨w2 (Nat.le_refl _), ?_⟩
    obtain ⟨vs, ev, r⟩ := at2.ac
    have hpm := (at2.rm.h p (.inr rfl)).1
    rcases q2 with q2 | q2
    case inr => exact hq _ ⟨m2, M1.s⟩ _ _ q2 (l1.trans at2.le) ⟨fun a o ea => (at2.rm.o a o ea).mono hid_lw rfl, fun a z => at2.rm.h a (.inl z)⟩ (Rep.lst_iff.mpr ⟨p, vs, rfl, ⟨hpm, rm1.vis hp, ev⟩, r.mono hid_lw⟩)
    have lF : Lw ⟨m2, hid M1.s p⟩ H2 ⟨mup m2 p (.lst acc), M1.s⟩ H2 := fun a o h1 h2 h3 => ⟨by show mup m2 p _ a = none; rw [mup_ne fun z => h2 (.inr z)]; exact h1, fun z => h2 (.inl z), h3⟩
    refine hq _ ⟨mup m2 p (.lst acc), M1.s⟩ _ _ (q2 p hpm) ⟨fun a o h1 h2 => ?_, l1.2⟩ ⟨fun a o ea => ?_, fun a z => ?_⟩ (Rep.ref_iff.mpr rfl)
    · obtain ⟨c1, c2⟩ := l1.1 a o h1 h2
      have ne : a ≠ p := ne_of_none c2 hp
      obtain ⟨c3, c4⟩ := at2.le.1 a o c1 c2
      exact ⟨by show mup m2 p _ a = none; rw [mup_ne ne]; exact c3, c4⟩
    · by_cases ne : a = p
      · subst ne
        have ea : mup m2 a (.lst acc) a = some o := ea
        rw [mup_same] at ea
        cases ea
        exact ⟨vs, ev, r.mono lF⟩
      · have ea : mup m2 p (.lst acc) a = some o := ea
        rw [mup_ne ne] at ea
        exact (at2.rm.o a o ea).mono lF rfl
    · obtain ⟨h1, o, e2⟩ := at2.rm.h a (.inl z)
      have ne : a ≠ p := fun z2 => by
        subst z2
        exact rm1.vis hp z
      exact ⟨by show mup m2 p _ a = none; rw [mup_ne ne]; exact h1, o, e2⟩
theorem d_lcM {elt tg iter : Expr} {ifs : List Expr} {scope : Scope} {own : List (Str × Nat)} {pos : Pos} {wi : DI} {g : Tg} {tt : DT} {te : DE} (hc : X.calm = true) (hN : X.N.Nodup) (hi : EI X M0 H0 tg iter wi) (ok : BlkOk X.N X.env.scope scope own)
    (hg : ∀ (s : Shared) (H : Hp) (C : Addr) (cl : List (Str × Addr)) (fp : List Addr), EG (X.blk s H scope (compEnvC scope cl C X.env) fp) tg g)
    (ht : ∀ (M0 : Wd) (H0 : Hp) (s : Shared) (H : Hp) (C : Addr) (cl : List (Str × Addr)) (fp : List Addr), ETs (X.blk s H scope (compEnvC scope cl C X.env) fp) M0 H0 ifs tt)
    (he : ∀ (M0 : Wd) (H0 : Hp) (s : Shared) (H : Hp) (C : Addr) (cl : List (Str × Addr)) (fp : List Addr), EE (X.blk s H scope (compEnvC scope cl C X.env) fp) M0 H0 elt te)
    (ho : ∀ i ∈ g.slots, i ∈ own.map (·.2) := by decide) (hs : ∀ x, foldedSetIterable iter X.env x = pure x := by intro _; rfl) :
    EE X M0 H0 (.ListComp elt [⟨tg, iter, ifs, 0⟩] scope pos) (dLcM wi g tt te (own.map (·.2))) :=
  pe_imp (pe_lc (g := hTg X.K g) hc hN hi ok hg (fun s H C cl fp => pts_ex (t := fun B : Wd × Hp => lT X.K B.1 B.2 tt) fun B => ht B.1 B.2 s H C cl fp) (fun s H C cl fp => pe_ex (t := fun B : Wd × Hp => lE X.K B.1 B.2 te) fun B => he B.1 B.2 s H C cl fp) hs) fun σ H Q h => tLcM_l ho h
/-- a dict of ours is from here on never changed -/
theorem Rep.frozenD {M : Wd} {a : Addr} {ks : List Key} {ds : List D} (rm : RelM K M H) (h : M.m a = some (.dct ks ds)) : Rep K ⟨mrm M.m a, M.s⟩ H (.ref a) (.dct ks ds) := by
  obtain ⟨xs, e, el, r⟩ := rm.o _ _ h
  refine Rep.dct_iff.mpr ⟨a, xs, rfl, ⟨mrm_same, fun z => ?_, e⟩, el, r.mono (Le.rm (a := a)).w⟩
  have := (rm.h a z).1
  rw [h] at this; cases this
def sFrzD (i : Nat) (t : DSt) : DSt := fun D ds M => match ds[i]? with
  | some (some (.ref a)) => ∃ ks vs, M a = some (.dct ks vs) ∧ t D (ds.set i (some (.dct ks vs))) (mrm M a)
  | _ => False
theorem ss_frzD {sts : List Stmt} {tS : DSt} (i : Nat) (h : EB X M0 H0 sts tS) : EB X M0 H0 sts (sFrzD i tS) := by
  refine pss_imp h fun D σ H ⟨ds, M, D', le, rm, rs, h, hq⟩ => ?_
  unfold sFrzD at h
  split at h
  · rename_i a e
    obtain ⟨ks, vs, hm, h⟩ := h
    obtain ⟨v, e1, r⟩ := rs.get e
    rw [Rep.ref_iff] at r
    subst r
    have rs' := (rs.mono (Le.rm (a := a)).w).set i (.frozenD rm hm)
    rw [set_self e1] at rs'
    exact ⟨_, ⟨mrm M.m a, M.s⟩, D', le.trans .rm, rm.rm, rs', h, hq.mono .rm⟩
  · exact h.elim
end
end Lt
/-! zip over two lists that are not changed -/
namespace Lt
open PySem PySem.Spec PyProof.Rows L2
section
variable {X : Cx} {M0 : Wd} {H0 : Hp} {a b c e f o : Expr} {te : DE} {ts : DA} {pos apos cpos : Pos}
variable {K : PySem.W.Frag} {M W : Wd} {H : Hp}
def zipD (xs ys : List D) : List D := List.zipWith (fun x y => .tup [x, y]) xs ys
theorem zipD_len (xs ys : List D) : (zipD xs ys).length = min xs.length ys.length := List.length_zipWith
theorem zipD_at {xs ys : List D} {i : Nat} {d : D} (h : (zipD xs ys)[i]? = some d) : ∃ x y, xs[i]? = some x ∧ ys[i]? = some y ∧ d = .tup [x, y] := by
  unfold zipD at h
  rw [List.getElem?_zipWith] at h
  cases hx : xs[i]? with
  | none => rw [hx] at h; cases h
  | some x =>
    cases hy : ys[i]? with
    | none => rw [hx, hy] at h; cases h
    | some y => rw [hx, hy] at h; exact ⟨x, y, rfl, rfl, (Option.some.inj h).symm⟩
theorem walks_zip {p q : Addr} {vs us : List V} {xs ys : List D} (h : ∀ M1 H1, Lw M H M1 H1 → SqL K H1 p vs) (g : ∀ M1 H1, Lw M H M1 H1 → SqL K H1 q us) (r : Reps K M H vs xs) (r2 : Reps K M H us ys) : Walks K M H (zipD xs ys) (Itz K p q) := fun M1 H1 l rm i => by
  refine ⟨fun d hd => ?_, fun hi => ⟨vs, us, h M1 H1 l, g M1 H1 l, by rw [r.len, r2.len]; rw [zipD_len] at hi; omega⟩⟩
  obtain ⟨x, y, hx, hy, rfl⟩ := zipD_at hd
  obtain ⟨v, ev, rv⟩ := r.get hx
  obtain ⟨u, eu, ru⟩ := r2.get hy
  refine ⟨⟨vs, us, v, u, h M1 H1 l, g M1 H1 l, ev, eu⟩, fun z H2 y => ?_⟩
  obtain ⟨T, v2, u2, rfl, hT, rfl, hv, hu⟩ := y
  have e1 := hv vs (h M1 _ l)
  have e2 := hu us (g M1 _ l)
  rw [ev] at e1; cases e1
  rw [eu] at e2; cases e2
  exact ⟨.new hT, rm.new hT, .tupN rm hT (.cons (rv.mono l) (.cons (ru.mono l) .nil))⟩
def iZipD (ts : DA) : DI := fun ds M Q => ts ds M fun xs M1 => match xs with
  | [.lst xs, .lst ys] => Q (zipD xs ys) M1
  | _ => False
theorem i_zip {elts : List Expr} {kk : Nat} {tpos p : Pos} (hg : Gl X "zip") (hm : X.mg "zip" = none) (ha : EA X M0 H0 [e, f] ts)
    (hs : starEach [e, f] X.env = (false, eval e X.env) :: starEach [f] X.env := by rfl) (hpl : (backTo pos (starEach [f] X.env)).any (·.1) = false := by rfl) :
    EI X M0 H0 (.Tuple elts kk tpos) (.Call (.Name "zip" p) [e, f] [] pos) (iZipD ts) := by
  refine pi_imp (pi_zip hg hm ha hs hpl) fun σ H R h => ?_
  obtain ⟨ds, M, Q', le, rm, rs, h, hq⟩ := h
  refine ⟨ds, M, _, le, rm, rs, h, fun xs M' vs H' q l rm' r => ?_⟩
  match xs, q with
  | [.lst xs, .lst ys], q =>
    match vs, r with
    | [v, u], r =>
      unfold Reps at r
      obtain ⟨r1, r⟩ := r
      unfold Reps at r
      obtain ⟨r2, _⟩ := r
      obtain ⟨a1, v1, rfl, h1, q1⟩ := Rep.lst_iff.mp r1
      obtain ⟨a2, v2, rfl, h2, q2⟩ := Rep.lst_iff.mp r2
      exact ⟨a1, a2, v1, v2, rfl, h1.sq, h2.sq, hq _ M' H' _ q l rm' (walks_zip (fun M1 H1 l => (h1.mono l).sq) (fun M1 H1 l => (h2.mono l).sq) q1 q2)⟩
    | [], r => unfold Reps at r; exact r.elim
    | [_], r => unfold Reps at r; obtain ⟨_, r⟩ := r; unfold Reps at r; exact r.elim
    | _ :: _ :: _ :: _, r => unfold Reps at r; obtain ⟨_, r⟩ := r; unfold Reps at r; obtain ⟨_, r⟩ := r; unfold Reps at r; exact r.elim
end
end Lt
/-! generators beside a consumer: what a run does that wakes none of them -/
namespace Lt
open PySem PySem.Spec PyProof.Rows L2
open Sem (wp)
def isSus : GenState → Bool
  | .suspended .. => true
  | _ => false
/-- the same to look at, but it can't be woken -/
def poison : GenState → GenState
  | .suspended _ l c p fs cl => .suspended (fun _ => .unsupported "") l c p fs cl
  | y => y
theorem poison_seen (x : GenState) : (poison x).seen = x.seen := by cases x <;> rfl
theorem poison_bare (x : GenState) : (poison x).bare = x.bare := by cases x <;> rfl
def fixG (G : Array GenState) (i : Nat) (y : GenState) : GenState := match G[i]? with
  | some x => if isSus x = true then x else y
  | none => y
def Ung (G : Array GenState) (s : Shared) : Shared := { s with gens := s.gens.mapIdx (fixG G) }
def Kept (G : Array GenState) (i : Nat) : Prop := ∃ x, G[i]? = some x ∧ isSus x = true
theorem fixG_free {G : Array GenState} {i : Nat} {y : GenState} (h : ¬ Kept G i) : fixG G i y = y := by
  unfold fixG
  cases e : G[i]? with
  | none => rfl
  | some x =>
    show (if isSus x = true then x else y) = y
    rw [if_neg fun z => h ⟨x, e, z⟩]
theorem fixG_kept {G : Array GenState} {i : Nat} {x y : GenState} (e : G[i]? = some x) (h : isSus x = true) : fixG G i y = x := by
  unfold fixG
  rw [e]
  show (if isSus x = true then x else y) = x
  rw [if_pos h]
def isRet : Frame → Bool
  | .ret .. => true
  | _ => false
def NoGen (fs : List Frame) : Prop := fs.all isRet = true
theorem NoGen.split : ∀ {fs : List Frame}, NoGen fs → splitAtGen fs = none
  | [], _ => rfl
  | .ret .. :: r, h => by
    have h2 : NoGen r := by unfold NoGen at h ⊢; rw [List.all_cons, Bool.and_eq_true] at h; exact h.2
    show (splitAtGen r).map _ = none
    rw [NoGen.split h2]; rfl
  | .gen .. :: r, h => by unfold NoGen at h; rw [List.all_cons] at h; cases h
theorem NoGen.app {a b : List Frame} (h : NoGen a) (g : NoGen b) : NoGen (a ++ b) := by
  unfold NoGen at *
  rw [List.all_append, h, g]; rfl
theorem NoGen.tail {F : Frame} {fs : List Frame} (h : NoGen (F :: fs)) : NoGen fs := by
  unfold NoGen at h ⊢
  rw [List.all_cons, Bool.and_eq_true] at h
  exact h.2
structure Poi (G : Array GenState) (s : Shared) : Prop where
  sz : G.size ≤ s.gens.size
  kept : ∀ (i : Nat) (x : GenState), G[i]? = some x → isSus x = true → s.gens[i]? = some (poison x)
  no : ∀ (i : Nat) k l c p fs cl, s.gens[i]? = some (.suspended k l c p fs cl) → ¬ Kept G i → NoGen fs
def EndNo : End → Prop
  | .susp _ _ _ _ _ _ fs => NoGen fs
  | _ => True
theorem Ung_get (G : Array GenState) (s : Shared) (i : Nat) : (Ung G s).gens[i]? = s.gens[i]?.map (fixG G i) := by
  show (s.gens.mapIdx (fixG G))[i]? = _
  rw [Array.getElem?_mapIdx]
theorem Ung_size (G : Array GenState) (s : Shared) : (Ung G s).gens.size = s.gens.size := by
  show (s.gens.mapIdx (fixG G)).size = _
  rw [Array.size_mapIdx]
theorem Poi.push {G : Array GenState} {s : Shared} {c : Code} (h : Poi G s) : Poi G { s with gens := s.gens.push (.fresh c) } where
  sz := by
    show G.size ≤ (s.gens.push _).size
    rw [Array.size_push]; exact Nat.le_succ_of_le h.sz
  kept := fun i x e z => by
    have := h.kept i x e z
    have hi := (Array.getElem?_eq_some_iff.mp this).1
    show (s.gens.push _)[i]? = _
    rw [Array.getElem?_push, if_neg (Nat.ne_of_lt hi)]; exact this
  no := fun i k l c' p fs cl e nk => by
    have e : (s.gens.push (.fresh c))[i]? = _ := e
    rw [Array.getElem?_push] at e
    split at e
    · cases e
    · exact h.no i k l c' p fs cl e nk
theorem Ung_push {G : Array GenState} {s : Shared} {c : Code} (h : Poi G s) : Ung G { s with gens := s.gens.push (.fresh c) } = { Ung G s with gens := (Ung G s).gens.push (.fresh c) } := by
  have e : (s.gens.push (.fresh c)).mapIdx (fixG G) = (s.gens.mapIdx (fixG G)).push (.fresh c) := by
    rw [Array.mapIdx_push]
    congr 1
    exact fixG_free fun ⟨x, e, _⟩ => by
      have := (Array.getElem?_eq_some_iff.mp e).1
      have := h.sz
      omega
  show ({ s with gens := (s.gens.push (.fresh c)).mapIdx (fixG G) } : Shared) = { s with gens := (s.gens.mapIdx (fixG G)).push (.fresh c) }
  rw [e]
theorem setGen_get (s : Shared) (g : Nat) (x : GenState) (i : Nat) : (s.setGen g x).gens[i]? = if g = i then (if i < s.gens.size then some x else none) else s.gens[i]? := by
  show (s.gens.setIfInBounds g x)[i]? = _
  rw [Array.getElem?_setIfInBounds]
  by_cases e : g = i
  · subst e; simp only [if_pos]
  · simp only [if_neg e]
theorem Poi.set {G : Array GenState} {s : Shared} {g : Nat} {x : GenState} (h : Poi G s) (ng : ¬ Kept G g) (hx : ∀ k l c p fs cl, x = .suspended k l c p fs cl → NoGen fs) : Poi G (s.setGen g x) where
  sz := by rw [GenW.setGen_size]; exact h.sz
  kept := fun i y e z => by
    rw [setGen_get, if_neg fun q => ng ⟨y, by rw [q]; exact e, z⟩]
    exact h.kept i y e z
  no := fun i k l c p fs cl e nk => by
    rw [setGen_get] at e
    split at e
    · split at e
      · exact hx k l c p fs cl (Option.some.inj e)
      · cases e
    · exact h.no i k l c p fs cl e nk
theorem Ung_set {G : Array GenState} {s : Shared} {g : Nat} {x : GenState} (ng : ¬ Kept G g) : Ung G (s.setGen g x) = (Ung G s).setGen g x := by
  have e : (s.gens.setIfInBounds g x).mapIdx (fixG G) = (s.gens.mapIdx (fixG G)).setIfInBounds g x := by
    refine Array.ext_getElem? fun i => ?_
    rw [Array.getElem?_mapIdx, Array.getElem?_setIfInBounds, Array.getElem?_setIfInBounds, Array.getElem?_mapIdx, Array.size_mapIdx]
    by_cases q : g = i
    · subst q
      rw [if_pos rfl, if_pos rfl]
      split
      · rw [Option.map_some, fixG_free ng]
      · rfl
    · rw [if_neg q, if_neg q]
  show ({ s with gens := (s.gens.setIfInBounds g x).mapIdx (fixG G) } : Shared) = { s with gens := (s.gens.mapIdx (fixG G)).setIfInBounds g x }
  rw [e]
theorem stuck0 {M : Model} {Γ : PySem.Ctx} {p : Pos} {z : String} {s s' : Shared} {e : End} (h : Runs M Γ p (.unsupported z) [] s e s') : False := by cases h
theorem stuckR {M : Model} {Γ : PySem.Ctx} {p : Pos} {z : String} {fs : List Frame} {s s' : Shared} {e : End} (h : Runs M Γ p (.unsupported z) fs s e s') : False := by
  cases h with
  | segRet h1 _ => exact stuck0 h1
  | segGen h1 _ => exact stuck0 h1
  | segSuspOut _ h1 => exact stuck0 h1
  | segSuspGen _ h1 _ _ => exact stuck0 h1
/-- a generator that is not one of those kept -/
theorem Poi.free {G : Array GenState} {s : Shared} {g : Nat} {y : GenState} (h : Poi G s) (e : s.gens[g]? = some y) (ny : isSus y = false) : ¬ Kept G g := fun ⟨x, ex, hx⟩ => by
  have := h.kept g x ex hx
  rw [e] at this
  cases this
  cases x <;> simp [isSus, poison] at hx ny
theorem Ung_at {G : Array GenState} {s : Shared} {g : Nat} {y : GenState} (e : s.gens[g]? = some y) (ng : ¬ Kept G g) : (Ung G s).gens[g]? = some y := by
  rw [Ung_get, e, Option.map_some, fixG_free ng]
theorem endNo_state {e : End} (h : EndNo e) : ∀ k l c p fs cl, e.genState = .suspended k l c p fs cl → NoGen fs := fun k l c p fs cl q => by
  cases e with
  | ret r => cases q
  | susp v g l' k' c' p' fs' => cases q; exact h
theorem runs_Ung {M : Model} (G : Array GenState) {Γ : PySem.Ctx} {p : Pos} {t : Sem PySem.Fin} {fs : List Frame} {s s' : Shared} {e : End} (h : Runs M Γ p t fs s e s') : NoGen fs → Poi G s → Poi G s' ∧ EndNo e ∧ Runs M Γ p t fs (Ung G s) e (Ung G s') := by
  induction h with
  | done => exact fun n P => ⟨P, trivial, .done⟩
  | raise => exact fun n P => ⟨P, trivial, .raise⟩
  | again q _ ih => exact fun n P => let ⟨a, b, c⟩ := ih n P; ⟨a, b, .again q c⟩
  | rule _ ih => exact fun n P => let ⟨a, b, c⟩ := ih n P; ⟨a, b, .rule c⟩
  | «at» _ ih => exact fun n P => let ⟨a, b, c⟩ := ih n P; ⟨a, b, .at c⟩
  | load q _ ih => exact fun n P => let ⟨a, b, c⟩ := ih n P; ⟨a, b, .load q c⟩
  | update q _ ih => exact fun n P => let ⟨a, b, c⟩ := ih n ⟨P.1, P.2, P.3⟩; ⟨a, b, .update q c⟩
  | loadIfAlive _ ih => exact fun n P => let ⟨a, b, c⟩ := ih n P; ⟨a, b, .loadIfAlive c⟩
  | point _ ih => exact fun n P => let ⟨a, b, c⟩ := ih n P; ⟨a, b, .point c⟩
  | alloc _ ih => exact fun n P => let ⟨a, b, c⟩ := ih n ⟨P.1, P.2, P.3⟩; ⟨a, b, .alloc c⟩
  | fresh _ ih => exact fun n P => let ⟨a, b, c⟩ := ih n ⟨P.1, P.2, P.3⟩; ⟨a, b, .fresh c⟩
  | ask _ ih => exact fun n P => let ⟨a, b, c⟩ := ih n P; ⟨a, b, .ask c⟩
  | choose q _ ih => exact fun n P => let ⟨a, b, c⟩ := ih n ⟨P.1, P.2, P.3⟩; ⟨a, b, .choose q c⟩
  | os _ ih => exact fun n P => let ⟨a, b, c⟩ := ih n ⟨P.1, P.2, P.3⟩; ⟨a, b, .os c⟩
  | handled _ ih => exact fun n P => let ⟨a, b, c⟩ := ih n P; ⟨a, b, .handled c⟩
  | @genState g st k Γ p s e s' q _ ih =>
    intro n P
    obtain ⟨a, b, c⟩ := ih n P
    refine ⟨a, b, ?_⟩
    refine Runs.genState (st := fixG G _ st) (by rw [Ung_get, q]; rfl) ?_
    have es : (fixG G g st).seen = st.seen := by
      by_cases K : Kept G g
      · obtain ⟨x, ex, hx⟩ := K
        rw [fixG_kept ex hx]
        have := P.kept _ x ex hx
        rw [q] at this; cases this
        exact (poison_seen x).symm
      · rw [fixG_free K]
    rw [es]; exact c
  | stack _ ih => exact fun n P => let ⟨a, b, c⟩ := ih n P; ⟨a, b, .stack c⟩
  | thread _ ih => exact fun n P => let ⟨a, b, c⟩ := ih n P; ⟨a, b, .thread c⟩
  | newGen _ ih =>
    intro n P
    obtain ⟨a, b, c⟩ := ih n P.push
    refine ⟨a, b, .newGen ?_⟩
    rw [Ung_size, ← Ung_push P]; exact c
  | call _ _ ih1 ih2 =>
    intro n P
    obtain ⟨a, _, c⟩ := ih1 rfl P
    obtain ⟨a2, b2, c2⟩ := ih2 n a
    exact ⟨a2, b2, .call c c2⟩
  | callSusp _ ih =>
    intro n P
    obtain ⟨a, b, c⟩ := ih rfl P
    exact ⟨a, NoGen.app b rfl, .callSusp c⟩
  | yield => exact fun n P => ⟨P, rfl, .yield⟩
  | resumeFresh q _ z _ ih1 ih2 =>
    intro n P
    have ng := P.free q rfl
    obtain ⟨a, b, c⟩ := ih1 rfl (P.set ng fun _ _ _ _ _ _ z => by cases z)
    obtain ⟨a2, b2, c2⟩ := ih2 n (a.set ng (endNo_state b))
    rw [Ung_set ng] at c
    rw [Ung_set ng] at c2
    exact ⟨a2, b2, .resumeFresh (Ung_at q ng) c z c2⟩
  | @resumeSuspended Γ p g r l k s k₀ l₀ c₀ p₀ fs cl e₁ s₁ e s' q h1 z _ ih1 ih2 =>
    intro n P
    by_cases ng : Kept G g
    · obtain ⟨x, ex, hx⟩ := ng
      have := P.kept g x ex hx
      rw [q] at this
      cases x with
      | suspended k2 l2 c2 p2 fs2 cl2 =>
        simp only [poison, Option.some.injEq, GenState.suspended.injEq] at this
        rw [this.1] at h1
        exact (stuckR h1).elim
      | _ => cases hx
    · obtain ⟨a, b, c⟩ := ih1 (P.no g _ _ _ _ _ _ q ng) (P.set ng fun _ _ _ _ _ _ z => by cases z)
      obtain ⟨a2, b2, c2⟩ := ih2 n (a.set ng (endNo_state b))
      rw [Ung_set ng] at c
      rw [Ung_set ng] at c2
      exact ⟨a2, b2, .resumeSuspended (Ung_at q ng) c z c2⟩
  | resumeJustStarted q z _ ih => exact fun n P => let ⟨a, b, c⟩ := ih n P; ⟨a, b, .resumeJustStarted (Ung_at q (P.free q rfl)) z c⟩
  | resumeThrowFresh q _ ih =>
    intro n P
    have ng := P.free q rfl
    obtain ⟨a, b, c⟩ := ih n (P.set ng fun _ _ _ _ _ _ z => by cases z)
    rw [Ung_set ng] at c
    exact ⟨a, b, .resumeThrowFresh (Ung_at q ng) c⟩
  | resumeRunning q _ ih => exact fun n P => let ⟨a, b, c⟩ := ih n P; ⟨a, b, .resumeRunning (Ung_at q (P.free q rfl)) c⟩
  | resumeFinished q _ ih => exact fun n P => let ⟨a, b, c⟩ := ih n P; ⟨a, b, .resumeFinished (Ung_at q (P.free q rfl)) c⟩
  | segRet _ _ ih1 ih2 =>
    intro n P
    obtain ⟨a, _, c⟩ := ih1 rfl P
    obtain ⟨a2, b2, c2⟩ := ih2 n.tail a
    exact ⟨a2, b2, .segRet c c2⟩
  | segGen _ _ _ _ => intro n; unfold NoGen at n; rw [List.all_cons] at n; cases n
  | segSuspOut q _ ih =>
    intro n P
    obtain ⟨a, b, c⟩ := ih rfl P
    exact ⟨a, NoGen.app b n, .segSuspOut q c⟩
  | segSuspGen q _ _ _ _ _ => intro n; rw [n.split] at q; cases q
theorem wakes_Ung {M : Model} {G : Array GenState} {Γ : PySem.Ctx} {p : Pos} {g : Nat} {r : Resume} {s s' : Shared} {res : GenResult} (P : Poi G s) (h : Wakes M Γ p g r s res s') : Poi G s' ∧ Wakes M Γ p g r (Ung G s) res (Ung G s') := by
  unfold Wakes at h ⊢
  split at h
  · exact h.elim
  · rename_i c q
    have ng := P.free q rfl
    rw [Ung_at q ng]
    dsimp only
    split at h
    · obtain ⟨e₁, s₁, hr, hq, rfl, rfl⟩ := h
      obtain ⟨a, b, c⟩ := runs_Ung G hr rfl (P.set ng fun _ _ _ _ _ _ z => by cases z)
      rw [Ung_set ng] at c
      exact ⟨a.set ng (endNo_state b), e₁, _, c, hq, rfl, Ung_set ng⟩
    · obtain ⟨rfl, rfl⟩ := h
      exact ⟨P, rfl, rfl⟩
    · obtain ⟨rfl, rfl⟩ := h
      exact ⟨P.set ng (fun _ _ _ _ _ _ z => by cases z), rfl, Ung_set ng⟩
  · rename_i k₀ l₀ c₀ p₀ fs cl q
    obtain ⟨e₁, s₁, hr, hq, rfl, rfl⟩ := h
    by_cases ng : Kept G g
    · obtain ⟨x, ex, hx⟩ := ng
      have := P.kept g x ex hx
      rw [q] at this
      cases x with
      | suspended k2 l2 c2 p2 fs2 cl2 =>
        simp only [poison, Option.some.injEq, GenState.suspended.injEq] at this
        rw [this.1] at hr
        exact (stuckR hr).elim
      | _ => cases hx
    · rw [Ung_at q ng]
      obtain ⟨a, b, c⟩ := runs_Ung G hr (P.no g _ _ _ _ _ _ q ng) (P.set ng fun _ _ _ _ _ _ z => by cases z)
      rw [Ung_set ng] at c
      exact ⟨a.set ng (endNo_state b), e₁, _, c, hq, rfl, Ung_set ng⟩
  · rename_i q
    obtain ⟨rfl, rfl⟩ := h
    rw [Ung_at q (P.free q rfl)]
    exact ⟨P, rfl, rfl⟩
  · rename_i q
    obtain ⟨rfl, rfl⟩ := h
    rw [Ung_at q (P.free q rfl)]
    exact ⟨P, rfl, rfl⟩
theorem wp_Ung {α : Type} (M : Model) (Γ : PySem.Ctx) (G : Array GenState) (t : Sem α) : ∀ (Q : α → Pos → Shared → Prop) (E : Value → Pos → Shared → Prop) (p : Pos) (s : Shared), Poi G s → wp M Γ t Q E p s →
    wp M Γ t (fun a p' s' => ∃ s0, s' = Ung G s0 ∧ Poi G s0 ∧ Q a p' s0) (fun e p' s' => ∃ s0, s' = Ung G s0 ∧ Poi G s0 ∧ E e p' s0) p (Ung G s) := by
  induction t with
  | pure a => exact fun Q E p s P h => ⟨s, rfl, P, h⟩
  | raise e => exact fun Q E p s P h => ⟨s, rfl, P, h⟩
  | unsupported _ => exact fun Q E p s _ h => h.elim
  | finish _ => exact fun Q E p s _ h => h.elim
  | rule _ k ih => exact fun Q E p s P h => ih () Q E p s P h
  | «at» p' k ih => exact fun Q E p s P h => ih () Q E p' s P h
  | load a _ k ih => exact fun Q E p s P ⟨o, ho, h⟩ => ⟨o, ho, ih o Q E p s P h⟩
  | update a _ f k ih => exact fun Q E p s P ⟨h1, h⟩ => ⟨h1, ih () Q E p { s with heap := s.heap.update a f } ⟨P.1, P.2, P.3⟩ h⟩
  | loadIfAlive a k ih => exact fun Q E p s P h => ih _ Q E p s P h
  | point _ k ih => exact fun Q E p s P h => ih () Q E p s P h
  | register _ _ => exact fun Q E p s _ h => h.elim
  | alloc o k ih => exact fun Q E p s P h => ih _ Q E p { s with heap := s.heap.push o } ⟨P.1, P.2, P.3⟩ h
  | fresh k ih => exact fun Q E p s P h => ih _ Q E p { s with toks := s.toks + 1 } ⟨P.1, P.2, P.3⟩ h
  | ask k ih => exact fun Q E p s P h => ih _ Q E p s P h
  | choose src m k ih => exact fun Q E p s P ⟨h1, h⟩ => ⟨h1, ih _ Q E p { s with drawn := s.drawn.bump src } ⟨P.1, P.2, P.3⟩ h⟩
  | os q _ k ih => exact fun Q E p s P h => ih _ Q E p { s with os := (Os.step s.os q).1 } ⟨P.1, P.2, P.3⟩ h
  | call c hd _ _ k ih =>
    intro Q E p s P h
    obtain ⟨r, s', hr, h⟩ := h
    obtain ⟨a, _, c⟩ := runs_Ung G hr rfl P
    exact ⟨r, _, c, ih r Q E p s' a h⟩
  | handled own k ih => exact fun Q E p s P h => ih _ Q E p s P h
  | genState g k ih =>
    intro Q E p s P h
    obtain ⟨st, q, h⟩ := h
    refine ⟨fixG G g st, by rw [Ung_get, q]; rfl, ?_⟩
    have es : (fixG G g st).seen = st.seen := by
      by_cases K : Kept G g
      · obtain ⟨x, ex, hx⟩ := K
        rw [fixG_kept ex hx]
        have := P.kept _ x ex hx
        rw [q] at this; cases this
        exact (poison_seen x).symm
      · rw [fixG_free K]
    rw [es]
    exact ih _ Q E p s P h
  | newGen c k ih =>
    intro Q E p s P h
    have := ih _ Q E p _ P.push h
    rw [Ung_push P] at this
    show wp M Γ (k (Ung G s).gens.size) _ _ _ _
    rw [Ung_size]
    exact this
  | resume g r _ k ih =>
    intro Q E p s P h
    obtain ⟨res, s', hw, h⟩ := h
    obtain ⟨a, b⟩ := wakes_Ung P hw
    exact ⟨res, _, b, ih res Q E p s' a h⟩
  | yield _ _ _ _ => exact fun Q E p s _ h => h.elim
  | stack k ih => exact fun Q E p s P h => ih _ Q E p s P h
  | fork _ _ => exact fun Q E p s _ h => h.elim
  | thread k ih => exact fun Q E p s P h => ih _ Q E p s P h
  | await _ _ _ _ _ => exact fun Q E p s _ h => h.elim
def allPoison (s : Shared) : Shared := { s with gens := s.gens.map poison }
theorem poi_all (s : Shared) : Poi s.gens (allPoison s) where
  sz := by show _ ≤ (s.gens.map poison).size; rw [Array.size_map]; exact Nat.le_refl _
  kept := fun i x e _ => by show (s.gens.map poison)[i]? = _; rw [Array.getElem?_map, e]; rfl
  no := fun i k l c p fs cl e nk => by
    have e : (s.gens.map poison)[i]? = _ := e
    rw [Array.getElem?_map] at e
    cases q : s.gens[i]? with
    | none => rw [q] at e; cases e
    | some x =>
      rw [q] at e
      cases x with
      | suspended k2 l2 c2 p2 fs2 cl2 => exact (nk ⟨_, q, rfl⟩).elim
      | _ => cases e
theorem Ung_all (s : Shared) : Ung s.gens (allPoison s) = s := by
  have e : (s.gens.map poison).mapIdx (fixG s.gens) = s.gens := by
    refine Array.ext_getElem? fun i => ?_
    rw [Array.getElem?_mapIdx, Array.getElem?_map]
    cases q : s.gens[i]? with
    | none => rfl
    | some x =>
      show some (fixG s.gens i (poison x)) = some x
      cases x with
      | suspended k2 l2 c2 p2 fs2 cl2 => rw [fixG_kept q rfl]
      | _ => rw [fixG_free fun ⟨y, ey, hy⟩ => by rw [q] at ey; cases ey; cases hy]; rfl
  show ({ s with gens := (s.gens.map poison).mapIdx (fixG s.gens) } : Shared) = s
  rw [e]
/-- what is done beside generators that sleep, leaves them as they are -/
theorem wpAny_beside {α : Type} {M : Model} {A : PySem.Around} {t : Sem α} {Q : α → Shared → Prop} {E : Value → Shared → Prop} {s : Shared} (h : wpAny M A t Q E (allPoison s)) :
    wpAny M A t (fun a s' => ∃ s0, s' = Ung s.gens s0 ∧ Poi s.gens s0 ∧ Q a s0) (fun e s' => ∃ s0, s' = Ung s.gens s0 ∧ Poi s.gens s0 ∧ E e s0) s := fun Γ p hΓ => by
  have := wp_Ung M Γ s.gens t _ _ p (allPoison s) (poi_all s) (h Γ p hΓ)
  rw [Ung_all] at this
  exact this
theorem wpAny_Ung {α : Type} {M : Model} {A : PySem.Around} {t : Sem α} {Q : α → Shared → Prop} {E : Value → Shared → Prop} {G : Array GenState} {s : Shared} (P : Poi G s) (h : wpAny M A t Q E s) :
    wpAny M A t (fun a s' => ∃ s0, s' = Ung G s0 ∧ Poi G s0 ∧ Q a s0) (fun e s' => ∃ s0, s' = Ung G s0 ∧ Poi G s0 ∧ E e s0) (Ung G s) := fun Γ p hΓ => wp_Ung M Γ G t _ _ p s P (h Γ p hΓ)
theorem bare_all {s : Shared} (h : AllBare s.gens) : AllBare (allPoison s).gens := fun y hy => by
  obtain ⟨x, hx, rfl⟩ := Array.mem_map.mp hy
  rw [poison_bare]; exact h x hx
theorem bare_Ung {G : Array GenState} {s : Shared} (hG : AllBare G) (h : AllBare s.gens) : AllBare (Ung G s).gens := fun y hy => by
  obtain ⟨i, hi, e⟩ := Array.mem_iff_getElem.mp hy
  have e2 : (Ung G s).gens[i]? = some y := by rw [Array.getElem?_eq_getElem hi, e]
  rw [Ung_get] at e2
  cases q : s.gens[i]? with
  | none => rw [q] at e2; cases e2
  | some z =>
    rw [q] at e2
    cases e2
    by_cases K : Kept G i
    · obtain ⟨x, ex, hx⟩ := K
      rw [fixG_kept ex hx]
      exact hG x (Array.mem_of_getElem? ex)
    · rw [fixG_free K]
      exact h z (Array.mem_of_getElem? q)
theorem Ung_sus {G : Array GenState} {s : Shared} {g : Nat} {x : GenState} (P : Poi G s) (e : G[g]? = some x) (h : isSus x = true) : (Ung G s).gens[g]? = some x := by
  rw [Ung_get, P.kept g x e h, Option.map_some, fixG_kept e h]
end Lt
/-! a generator's code from one waking to the next handing out -/
namespace Lt
open PySem PySem.Spec PyProof.Rows L2 GenW
open Sem (wp)
abbrev noX : Value → Shared → Prop := fun _ _ => False
/-- this code ends as Φ says -/
def SegX (M : Model) (A : PySem.Around) (Φ : End → Shared → Prop) (c : Code) (t : Sem PySem.Fin) (fs : List Frame) (s : Shared) : Prop :=
  ∀ (Γ : PySem.Ctx) (p : Pos), Γ.code = c → Γ.Woken A → ∃ e s1, Runs M Γ p t fs s e s1 ∧ Φ e s1
section
variable {M : Model} {A : PySem.Around} {Φ : End → Shared → Prop} {c c' : Code} {fs : List Frame} {s : Shared}
theorem x_wrap {α : Type} {m : Sem α} {K : α → Sem PySem.Fin} {J : Value → Sem PySem.Fin} {gd : Bool → Bool} {lv : List Value → List Value}
    (h : wpAny M (A.over c fs) m (fun a s1 => SegX M A Φ c (K a) fs s1) noX s) : SegX M A Φ c (m.wrap K J gd lv) fs s := fun Γ p e w => by
  subst e
  exact runs_wrap_of_wp K J gd lv m (h (Γ.over fs) p (w.over fs)) (fun a p1 s1 q => q Γ p1 rfl w) fun _ _ _ q => q.elim
theorem x_bind {α β : Type} {m : Sem α} {f : α → Sem β} {K : β → Sem PySem.Fin} {J : Value → Sem PySem.Fin} {gd : Bool → Bool} {lv : List Value → List Value}
    (h : wpAny M (A.over c fs) m (fun a s1 => SegX M A Φ c ((f a).wrap K J gd lv) fs s1) noX s) : SegX M A Φ c ((m >>= f).wrap K J gd lv) fs s := by
  rw [Sem.bind_eq_wrap', Sem.wrap_wrap]
  exact x_wrap h
theorem x_call {h : Option Value} {g : Bool} {l : List Value} {k : Result → Sem PySem.Fin} (q : ∀ p, SegX M A Φ c' (M.den c') (.ret k h g l c p [] :: fs) s) : SegX M A Φ c (.call c' h g l k) fs s := fun Γ p e w => by
  subst e
  obtain ⟨en, s1, hr, he⟩ := q p (Γ.goto c') p rfl (w.goto c')
  exact ⟨en, s1, runs_call_seg hr, he⟩
theorem x_leaf {k : Result → Sem PySem.Fin} {h : Option Value} {g : Bool} {l kp : List Value} {c1 : Code} {p1 : Pos} (r : Result) (q : SegX M A Φ c1 (k r) fs s) : SegX M A Φ c (leafOf r) (.ret k h g l c1 p1 kp :: fs) s := fun Γ p e w => by
  subst e
  obtain ⟨en, s1, hr, he⟩ := q (Γ.goto c1) p1 rfl (w.goto c1)
  exact ⟨en, s1, Runs.pop r hr, he⟩
theorem x_again (hq : c'.quiet = true) (q : SegX M A Φ c' (M.den c') fs s) : SegX M A Φ c (.pure (.again c')) fs s := fun Γ p e w => by
  subst e
  obtain ⟨en, s1, hr, he⟩ := q (Γ.goto c') p rfl (w.goto c')
  exact ⟨en, s1, Runs.head (c₁ := c') (fun _ _ z => .again hq z) hr, he⟩
theorem x_end (r : Result) (q : Φ (.ret r) s) : SegX M A Φ c (leafOf r) [] s := fun Γ p e w => ⟨_, s, Runs.leaf r, q⟩
theorem x_at {p : Pos} {k : Unit → Sem PySem.Fin} (q : SegX M A Φ c (k ()) fs s) : SegX M A Φ c (.at p k) fs s :=
  x_wrap (m := standAt p) (K := k) (J := .raise) (gd := id) (lv := id) (wpAny_standAt q)
theorem x_point {l : List Value} {k : Unit → Sem PySem.Fin} (q : SegX M A Φ c (k ()) fs s) : SegX M A Φ c (.point l k) fs s :=
  x_wrap (m := point) (K := k) (J := .raise) (gd := id) (lv := fun _ => l) (wpAny_point q)
theorem x_yield {v : Value} {g : Bool} {l : List Value} {k : Resume → Sem PySem.Fin} (hf : splitAtGen fs = none)
    (q : ∀ p, Φ (.susp v g l k c p fs) s) : SegX M A Φ c (.yield v g l k) fs s := fun Γ p e w => by
  subst e
  exact ⟨_, s, Runs.yield' fs hf, q p⟩
theorem x_nil {env : Env} {K : Flow → Sem PySem.Fin} {J : Value → Sem PySem.Fin} {gd : Bool → Bool} {lv : List Value → List Value} (q : SegX M A Φ c (K .next) fs s) : SegX M A Φ c ((execs [] env).wrap K J gd lv) fs s := q
theorem x_cons {env : Env} {st : Stmt} {rest : List Stmt} {K : Flow → Sem PySem.Fin} {J : Value → Sem PySem.Fin} {gd : Bool → Bool} {lv : List Value → List Value}
    (q : SegX M A Φ c ((exec st env).wrap (fun f => match f with | .next => (execs rest env).wrap K J gd lv | f => K f) J gd lv) fs s) : SegX M A Φ c ((execs (st :: rest) env).wrap K J gd lv) fs s := by
  rw [execs_cons_wrap]; exact q
/-- a loop's own code -/
theorem x_own {env : Env} {K : Flow → Sem PySem.Fin} {J : Value → Sem PySem.Fin} {gd : Bool → Bool} {lv : List Value → List Value}
    (q : ∀ (k : Result → Sem PySem.Fin) p, (∀ f, k (.ok f) = K f) → SegX M A Φ c' (M.den c') (.ret k none (gd false) (lv []) c p [] :: fs) s) : SegX M A Φ c ((runOwn c' env).wrap K J gd lv) fs s :=
  x_call fun p => q _ p fun _ => rfl
end
section
variable {prog : Program} {w : World} {A : PySem.Around} {Φ : End → Shared → Prop} {c : Code} {fs : List Frame} {s : Shared} {env : Env}
theorem x_for {tg iter : Expr} {body : List Stmt} {pos : Pos} {K : Flow → Sem PySem.Fin} {J : Value → Sem PySem.Fin} {gd : Bool → Bool} {lv : List Value → List Value} (hs : ∀ x, foldedSetIterable iter env x = pure x)
    (q : wpAny (model prog w) (A.over c fs) (eval iter env) (fun x s1 => wpAny (model prog w) (A.over c fs) (pyIter x) (fun it s2 =>
      ∀ (k : Result → Sem PySem.Fin) p, (∀ f, k (.ok f) = K f) → SegX (model prog w) A Φ (.forLoop tg it body [] env) ((model prog w).den (.forLoop tg it body [] env)) (.ret k none (gd false) (lv []) c p [] :: fs) s2) noX s1) noX s) :
    SegX (model prog w) A Φ c ((exec (.For tg iter body [] pos) env).wrap K J gd lv) fs s := by
  rw [exec_For]
  refine x_bind (wpAny_standAt (x_bind (wpAny_mono q (fun x s1 q1 => x_bind (wpAny_of_eq (hs x) (x_bind (wpAny_standAt (x_bind (wpAny_holding (wpAny_mono q1 (fun it s2 q2 => x_own q2) fun _ _ z => z))))))) fun _ _ z => z)))
theorem x_forLoop {tg : Expr} {it : Value} {body : List Stmt}
    (q : wpAny (model prog w) (A.over (.forLoop tg it body [] env) fs) (pyNext it) (fun r s1 => match r with
      | none => SegX (model prog w) A Φ (.block [] env) (.pure (.done .next)) fs s1
      | some v => wpAny (model prog w) (A.over (.forLoop tg it body [] env) fs) (letOwnedTupleGo tg it v) (fun _ s2 => wpAny (model prog w) (A.over (.forLoop tg it body [] env) fs) (assign tg env v) (fun _ s3 =>
          ∀ J : Value → Sem PySem.Fin, SegX (model prog w) A Φ (.forLoop tg it body [] env) ((execs body env).wrap (fun f => match f with
            | .next => .pure (.again (.forLoop tg it body [] env))
            | .cont => .pure (.again (.forLoop tg it body [] env))
            | .brk => .pure (.done .next)
            | .ret v => .pure (.done (.ret v))) J id id) fs s3) noX s2) noX s1) noX s) :
    SegX (model prog w) A Φ (.forLoop tg it body [] env) ((model prog w).den (.forLoop tg it body [] env)) fs s := by
  show SegX _ A Φ _ ((forTurn tg it body [] env).onRaise (fun x => do noteFrame x env; theTreesLotGoes x)) fs s
  rw [Sem.onRaise_eq_wrap]
  unfold forTurn
  refine x_bind (wpAny_standAt (x_bind (wpAny_onRaise (wpAny_mono q (fun r s1 q1 => ?_) fun _ _ z => z.elim))))
  cases r with
  | none => exact x_again rfl q1
  | some v =>
    refine x_bind (wpAny_mono q1 (fun _ s2 q2 => x_bind (wpAny_mono q2 (fun _ s3 q3 => ?_) fun _ _ z => z)) fun _ _ z => z)
    have := q3 (fun e => ((do noteFrame e env; theTreesLotGoes e : Sem Unit).bind fun _ => (.raise e : Sem PySem.Fin)))
    rw [Sem.bind_eq_wrap', Sem.wrap_wrap]
    rw [Sem.wrap_congr (execs body env) _ _ (K' := fun f => match f with
            | .next => .pure (.again (.forLoop tg it body [] env))
            | .cont => .pure (.again (.forLoop tg it body [] env))
            | .brk => .pure (.done .next)
            | .ret v => .pure (.done (.ret v))) (fun f => by cases f <;> rfl) (fun e => rfl)]
    exact this
end
end Lt
/-! a generator's frame: asleep, woken -/
namespace Lt
open PySem PySem.Spec PyProof.Rows L2 GenW
/-- the lowest addresses of a heap -/
def cutHp (h : Heap) (n : Nat) : Heap := ⟨h.objs.extract 0 n, h.life⟩
theorem cutHp_size {h : Heap} {n : Nat} (hn : n ≤ h.objs.size) : (cutHp h n).objs.size = n := by
  show (h.objs.extract 0 n).size = n
  rw [Array.size_extract]; omega
theorem cutHp_lt {h : Heap} {n b : Nat} (hb : b < n) : (cutHp h n).get? b = h.get? b := by
  unfold Heap.get? cutHp
  have e : (h.objs.extract 0 n)[b]? = h.objs[b]? := by
    rw [Array.getElem?_extract]
    by_cases q : b < h.objs.size
    · rw [if_pos (by omega), Nat.zero_add]
    · rw [if_neg (by omega), Array.getElem?_eq_none (by omega)]
  dsimp only
  rw [e]
theorem cutHp_of {h : Heap} {n b : Nat} {o : Obj} (e : (cutHp h n).get? b = some o) : b < n ∧ h.get? b = some o := by
  have hb : b < n := by
    have e1 : b < (cutHp h n).objs.size := Heap.lt_size e
    have e2 : (cutHp h n).objs.size ≤ n := by
      show (h.objs.extract 0 n).size ≤ n
      rw [Array.size_extract]; omega
    omega
  rw [cutHp_lt hb] at e
  exact ⟨hb, e⟩
/-- a generator that was made: its def, the frames about it, its frame's address -/
structure GCx where
  P : Program
  w : World
  K : PySem.W.Frag
  mg : Str → Option Value
  base : Heap
  N : List Str
  qual : Str
  scope : Scope
  f : Addr
  cd : Value
  A : PySem.Around
  outer : List Env
  n0 : Nat
  os : OsState
  g0 : Nat
abbrev GCx.env (G : GCx) : Env := envOfC G.qual G.scope G.n0 G.f G.cd
def GCx.x (G : GCx) (sw : Shared) (Hw : Hp) : Cx where
  prog := G.P
  w := G.w
  K := G.K
  mg := G.mg
  base := G.base
  A := G.A.deeper G.env
  N := G.N
  s_0 := { sw with heap := cutHp sw.heap G.n0 }
  H_0 := fun b => if b < G.n0 then Hw b else none
  env := G.env
  outer := G.outer
  stack := G.env :: G.outer
  ex := []
  calm := true
  fn := fun _ => true
  pn := []
  xe := noX
/-- the state in which a generator is woken -/
structure WkOk (G : GCx) (sw : Shared) (Hw : Hp) (S : Addr → Prop) : Prop where
  os : sw.os = G.os
  bare : AllBare sw.gens
  hok : HOk G.P G.w Hw sw.heap
  bs : ∀ b o, G.base.get? b = some o → sw.heap.get? b = some o ∧ Hw b = none
  bsz : G.base.objs.size ≤ G.n0
  sz : G.n0 ≤ sw.heap.objs.size
  funs : sw.heap.FunFrames G.base G.outer
  frf : ∀ b ∈ frs G.outer, Hw b = none ∧ b < G.n0
  rm : RelM G.K ⟨fun _ => none, S⟩ Hw
  gz : G.g0 < sw.gens.size
/-- what never changes of a generator -/
structure GOk (G : GCx) : Prop where
  mod : Mod G.K G.mg G.base
  kind : G.scope.kind = .function
  cells : cellsFrom (G.n0 + 1) G.scope.names [] = []
  nocell : ∀ x, G.scope.names.lookup x ≠ some .cell ∧ G.scope.names.lookup x ≠ some .free
  hd : G.A.handled = none
  frames : G.A.frames = some G.outer
theorem funs_cut {base h h' : Heap} : ∀ {l : List Env}, (∀ b ∈ frs l, ∀ o, h.get? b = some o → h'.get? b = some o) → h.FunFrames base l → h'.FunFrames base l
  | [], _, _ => trivial
  | env :: r, k, hl => by
    obtain ⟨h1, ⟨L, o, hf, hn, ho, hd⟩, hr⟩ := hl
    have e : frs (env :: r) = L :: frs r := by unfold frs; rw [List.filterMap_cons, hf]
    exact ⟨h1, ⟨L, o, hf, hn, k L (by rw [e]; exact List.mem_cons_self) o ho, hd⟩, funs_cut (fun b hb => k b (by rw [e]; exact List.mem_cons_of_mem _ hb)) hr⟩
/-- a frame stands in a state -/
theorem gx_inv {G : GCx} (g : GOk G) {sw : Shared} {Hw : Hp} {S : Addr → Prop} (ok : WkOk G sw Hw S) {σ : L2.St} {pins : List (Addr × Obj)}
    (hloc : ∃ m, sw.heap.Ns G.n0 m ∧ ∀ (i : Nat) (x : Str) (v : V), G.N[i]? = some x → σ[i]? = some (some v) → Vis G.scope x → ∃ u, RelV v u ∧ Look G.env sw.heap m x u)
    (hfree : Hw G.n0 = none) (hpin : ∀ p ∈ pins, sw.heap.get? p.1 = some p.2 ∧ Hw p.1 = none ∧ p.1 ≠ G.n0 ∧ p.1 ∉ frs G.outer ∧ ∀ v, p.2.data ≠ .cell v) (hlen : σ.length = G.N.length) :
    Inv (G.x sw Hw) pins σ Hw sw := by
  have nc : ∀ x c, G.env.cells.lookup x = some c → False := fun x c e => by
    have e : (cellsFrom (G.n0 + 1) G.scope.names []).lookup x = some c := e
    rw [g.cells] at e; cases e
  have sz : (cutHp sw.heap G.n0).objs.size = G.n0 := cutHp_size ok.sz
  refine ⟨⟨g.mod, g.kind, rfl, rfl, Nat.le_of_eq sz, fun x y c e => (nc x c e).elim, fun x h => ?_, fun x c _ e => (nc x c e).elim, fun _ => g.hd, Around.frames_deeper g.frames, .inr ⟨rfl, rfl⟩, fun b z => absurd (show b ∈ ([] : List Addr) from z) (by simp), fun b o e => ?_, ?_, fun b _ _ z => absurd (show b ∈ ([] : List Addr) from z) (by simp), fun b z => absurd (show b ∈ ([] : List Addr) from z) (by simp), ?_, fun b hb => ?_⟩,
    rfl, ok.bare, ⟨fun b o e _ _ _ => (cutHp_of e).2, fun b o e _ _ _ => ⟨o.slots, (cutHp_of e).2⟩, fun b o e n _ => ?_, fun b o e _ => ⟨o, (cutHp_of e).2⟩, fun b xs e => ?_, fun b o u e => ?_, fun b ps e => ⟨#[], ?_⟩⟩, hloc, fun x c e => (nc x c e).elim, hfree, fun x c e => (nc x c e).elim, fun p hp => ?_, ok.hok, hlen⟩
  · have h : G.scope.names.lookup x = some .cell ∨ G.scope.names.lookup x = some .free := h
    rcases h with h | h
    · exact ((g.nocell x).1 h).elim
    · exact ((g.nocell x).2 h).elim
  · have hb : b < G.n0 := Nat.lt_of_lt_of_le (Heap.lt_size e) ok.bsz
    obtain ⟨h1, h2⟩ := ok.bs b o e
    exact ⟨(cutHp_lt hb).trans h1, by show (if b < G.n0 then Hw b else none) = none; rw [if_pos hb]; exact h2⟩
  · show G.base.objs.size ≤ (cutHp sw.heap G.n0).objs.size
    rw [sz]; exact ok.bsz
  · exact funs_cut (fun b hb o e => (cutHp_lt (ok.frf b hb).2).trans e) ok.funs
  · show (if b < G.n0 then Hw b else none) = none
    rw [if_pos (ok.frf b hb).2]; exact (ok.frf b hb).1
  · have n : (if b < G.n0 then Hw b else none) = none := n
    rw [if_pos (cutHp_of e).1] at n; exact n
  · have e : (if b < G.n0 then Hw b else none) = _ := e
    split at e
    · exact e
    · cases e
  · have e : (if b < G.n0 then Hw b else none) = _ := e
    split at e
    · exact e
    · cases e
  · have e : (if b < G.n0 then Hw b else none) = _ := e
    split at e
    · rw [e]; simp
    · cases e
  · rcases List.mem_append.mp hp with hp | hp
    · exact absurd (show p ∈ ([] : List (Addr × Obj)) from hp) (by simp)
    · exact hpin p hp
/-- from a state s to a later one: what a sleeping generator holds is kept -/
structure Slept2 (G : GCx) (s : Shared) (H : Hp) (S : Addr → Prop) (s' : Shared) (H' : Hp) (S' : Addr → Prop) : Prop where
  ok : WkOk G s' H' S'
  own : ∀ b o, G.n0 ≤ b → s.heap.get? b = some o → H b = none → (∀ v, o.data ≠ .cell v) → s'.heap.get? b = some o ∧ H' b = none
  lw : Lw ⟨fun _ => none, S⟩ H ⟨fun _ => none, S'⟩ H'
  gn : ∀ (g : Nat) (x : GenState), G.g0 < g → s.gens[g]? = some x → isSus x = true → s'.gens[g]? = some x
/-- woken: the same frame in the later state -/
theorem Inv.woke {G : GCx} (g : GOk G) {sw : Shared} {Hw : Hp} {σ : L2.St} {pins : List (Addr × Obj)} {s s' : Shared} {H H' : Hp} {S S' : Addr → Prop} (I : Inv (G.x sw Hw) pins σ H s) (z : Slept2 G s H S s' H' S')
    (hn : ∀ p ∈ pins, G.n0 ≤ p.1) : Inv (G.x s' H') pins σ H' s' := by
  obtain ⟨m, ⟨o, es, ep, ho, hd, hk⟩, hl⟩ := I.loc
  have ho : s.heap.get? G.n0 = some o := ho
  obtain ⟨k1, k2⟩ := z.own G.n0 o (Nat.le_refl _) ho I.free fun v e => by rw [hd] at e; cases e
  refine gx_inv g z.ok ⟨m, ⟨o, es, ep, k1, hd, hk⟩, fun i x v e1 e2 e3 => ?_⟩ k2 (fun p hp => ?_) I.len
  · obtain ⟨u, r, q⟩ := hl i x v e1 e2 e3
    refine ⟨u, r, ?_⟩
    rcases q with q | ⟨q, _⟩
    · exact .inl q
    · have q : G.scope.names.lookup x = some .cell ∨ G.scope.names.lookup x = some .free := q
      rcases q with q | q
      · exact ((g.nocell x).1 q).elim
      · exact ((g.nocell x).2 q).elim
  · obtain ⟨h1, h2, h3, h4, h5⟩ := I.pin p (List.mem_append_right _ hp)
    obtain ⟨j1, j2⟩ := z.own p.1 p.2 (hn p hp) h1 h2 h5
    exact ⟨j1, j2, h3, h4, h5⟩
end Lt
/-! the statements of a generator -/
namespace Lt
open PySem PySem.Spec PyProof.Rows L2 GenW
theorem heap_there {P : Program} {w : World} {H : Hp} {h : Heap} {a : Addr} {o : HO} (x : HOk P w H h) (e : H a = some o) : ∃ u, h.get? a = some u := by
  have x := x a o e
  cases o with
  | lst xs => obtain ⟨_, _, _, _, e⟩ := x; exact ⟨_, e⟩
  | tup xs => obtain ⟨_, _, _, o, e, _⟩ := x; exact ⟨_, e⟩
  | dK kvs => obtain ⟨_, _, _, _, o, _, _, e, _⟩ := x; exact ⟨_, e⟩
  | dT kvs => obtain ⟨_, _, _, _, o, _, _, e, _⟩ := x; exact ⟨_, e⟩
  | set S n => obtain ⟨o, _, _, _, e, _⟩ := x; exact ⟨_, e⟩
  | ins C dx fs => obtain ⟨_, _, _, e, _⟩ := x; exact ⟨_, e⟩
  | own y => exact x
  | xd fs => obtain ⟨_, ⟨_, _, _, e, _⟩, _⟩ := x; exact ⟨_, e⟩
  | rng lo hi => obtain ⟨_, _, _, e⟩ := x; exact ⟨_, e⟩
  | frz ob u => obtain ⟨e, _⟩ := x; exact ⟨_, e⟩
  | tbl ps => exact ⟨_, x⟩
  | met f y => exact ⟨_, x⟩
  | ext φ => exact x.2.1
structure Wk where
  s : Shared
  H : Hp
  S : Addr → Prop
abbrev noM : Mp := fun _ => none
structure GAt (G : GCx) (wk : Wk) (pins : List (Addr × Obj)) (gp : List (Nat × GenState)) (σ : L2.St) (H : Hp) (s : Shared) (ds : DS) (m : Mp) : Prop where
  ok : WkOk G wk.s wk.H wk.S
  inv : Inv (G.x wk.s wk.H) pins σ H s
  le : Le ⟨noM, wk.S⟩ wk.H ⟨m, wk.S⟩ H
  rm : RelM G.K ⟨m, wk.S⟩ H
  rs : RelS G.K ⟨m, wk.S⟩ H σ ds
  gz : G.g0 < s.gens.size
  gk : ∀ (g : Nat) (x : GenState), g < G.g0 → wk.s.gens[g]? = some x → isSus x = true → s.gens[g]? = some x
  gp : ∀ p ∈ gp, G.g0 < p.1 ∧ s.gens[p.1]? = some p.2 ∧ isSus p.2 = true
theorem Inv.gens {X : Cx} {pins : List (Addr × Obj)} {σ : L2.St} {H : Hp} {s s' : Shared} (I : Inv X pins σ H s) (h1 : s'.heap = s.heap) (h2 : s'.os = s.os) (h3 : AllBare s'.gens) : Inv X pins σ H s' :=
  I.call' (ch := []) h2 (by rw [h1]; exact Un.refl) (by rw [h1]; exact I.hok) h3 fun b z => by cases z
/-- what was run beside the sleeping ones -/
theorem GAt.ran {G : GCx} {wk : Wk} {pins pins' : List (Addr × Obj)} {gp : List (Nat × GenState)} {σ σ' : L2.St} {H H' : Hp} {s s0 : Shared} {ds ds' : DS} {m m' : Mp} (hh : GAt G wk pins gp σ H s ds m) (P : Poi s.gens s0) (I : Inv (G.x wk.s wk.H) pins' σ' H' s0)
    (l : Le ⟨m, wk.S⟩ H ⟨m', wk.S⟩ H') (rm : RelM G.K ⟨m', wk.S⟩ H') (rs : RelS G.K ⟨m', wk.S⟩ H' σ' ds') : GAt G wk pins' gp σ' H' (Ung s.gens s0) ds' m' := by
  refine ⟨hh.ok, Inv.gens I rfl rfl (bare_Ung hh.inv.bare I.bare), hh.le.trans l, rm, rs, ?_, fun g x h1 h2 h3 => Ung_sus P (hh.gk g x h1 h2 h3) h3, fun p hp => ?_⟩
  · rw [Ung_size]; exact Nat.lt_of_lt_of_le hh.gz P.sz
  · obtain ⟨h1, h2, h3⟩ := hh.gp p hp
    exact ⟨h1, Ung_sus P h2 h3, h3⟩
/-- what may have changed: the generator's own things -/
def chOf (G : GCx) (wk : Wk) : List Addr := (List.range wk.s.heap.objs.size).filter fun b => decide (G.n0 ≤ b) && (wk.H b).isNone
theorem mem_chOf {G : GCx} {wk : Wk} {b : Addr} {o : Obj} (h : wk.s.heap.get? b = some o) (h1 : G.n0 ≤ b) (h2 : wk.H b = none) : b ∈ chOf G wk :=
  List.mem_filter.mpr ⟨List.mem_range.mpr (Heap.lt_size h), by rw [h2, decide_eq_true h1]; rfl⟩
theorem of_chOf {G : GCx} {wk : Wk} {b : Addr} (h : b ∈ chOf G wk) : G.n0 ≤ b := by
  have := (List.mem_filter.mp h).2
  rw [Bool.and_eq_true] at this
  exact of_decide_eq_true this.1
/-- from the waking to here -/
structure Since (G : GCx) (a : Addr) (go : Obj) (wk : Wk) (s : Shared) (H : Hp) : Prop where
  os : s.os = G.os
  bare : AllBare s.gens
  hok : HOk G.P G.w H s.heap
  un : Un (frs G.outer) (chOf G wk) wk.H H wk.s.heap s.heap
  le : Le ⟨noM, wk.S⟩ wk.H ⟨noM, wk.S⟩ H
  rm : RelM G.K ⟨noM, wk.S⟩ H
  obj : s.heap.get? a = some go
  free : H a = none ∧ H G.n0 = none
  gz : G.g0 < s.gens.size
  gk : ∀ (g : Nat) (x : GenState), g < G.g0 → wk.s.gens[g]? = some x → isSus x = true → s.gens[g]? = some x
theorem GAt.since {G : GCx} {wk : Wk} {a : Addr} {go : Obj} {pins : List (Addr × Obj)} {gp : List (Nat × GenState)} {σ : L2.St} {H : Hp} {s : Shared} {ds : DS} (h : GAt G wk pins gp σ H s ds noM) (hp : (a, go) ∈ pins) : Since G a go wk s H := by
  have I := h.inv
  have B := I.base
  have old : ∀ b o, b < G.n0 → wk.s.heap.get? b = some o → (G.x wk.s wk.H).s_0.heap.get? b = some o := fun b o hb e => (cutHp_lt hb).trans e
  have old2 : ∀ b, b < G.n0 → wk.H b = none → (G.x wk.s wk.H).H_0 b = none := fun b hb e => by
    show (if b < G.n0 then wk.H b else none) = none
    rw [if_pos hb]; exact e
  have nx : ∀ b, b ∉ (G.x wk.s wk.H).ex := fun b z => absurd (show b ∈ ([] : List Addr) from z) (by simp)
  have low : ∀ b o, wk.s.heap.get? b = some o → wk.H b = none → b ∉ chOf G wk → b < G.n0 := fun b o e n z => Nat.lt_of_not_le fun q => z (mem_chOf e q n)
  have all : ∀ b o, wk.H b = some o → H b = some o := fun b o e => (h.le.1 b o rfl e).2
  refine ⟨I.os.trans h.ok.os, I.bare, I.hok, ⟨fun b o e n nf nc => ?_, fun b o e n nf nc => ?_, fun b o e n nc => ?_, fun b o e nc => ?_, fun b xs e => all b _ e, fun b o u e => all b _ e, fun b ps e => ⟨#[], ?_⟩⟩, h.le, h.rm, (I.pin (a, go) (List.mem_append_right _ hp)).1, ⟨(I.pin (a, go) (List.mem_append_right _ hp)).2.1, I.free⟩, h.gz, h.gk⟩
  · have hb := low b o e n nc
    exact B.keep b o (old b o hb e) (old2 b hb n) nf (nx b)
  · have hb := low b o e n nc
    exact B.slot b o (old b o hb e) (old2 b hb n) nf (nx b)
  · have hb := low b o e n nc
    exact B.free b o (old b o hb e) (old2 b hb n) (nx b)
  · cases n : wk.H b with
    | none =>
      have hb := low b o e n nc
      exact B.there b o (old b o hb e) (nx b)
    | some u =>
      exact heap_there I.hok (all b u n)
  · rw [all b _ e]; simp
theorem rs_none {K : PySem.W.Frag} {M : Wd} {H : Hp} : ∀ σ : L2.St, RelS K M H σ (List.replicate σ.length none)
  | [] => by unfold RelS; exact True.intro
  | x :: σ => by
    rw [List.length_cons, List.replicate_succ]
    unfold RelS
    exact ⟨(fun e z => by cases z), rs_none σ⟩
def GoesX (M : Model) (A : PySem.Around) (Φ : End → Shared → Prop) : GenState → Shared → Prop
  | .fresh c, s => SegX M A Φ c (M.den c) [] s
  | .suspended k _ c _ fs _, s => SegX M A Φ c (k (.send .none)) fs s
  | _, _ => False
/-- a run of a generator ends: an item is handed out, or all is done -/
def PhiOf (G : GCx) (a : Addr) (go : Obj) (out : Nat → Option D) (Z : Nat → GenState → Shared → Hp → (Addr → Prop) → Prop) (i : Nat) (wk : Wk) (e : End) (s : Shared) : Prop :=
  match e with
  | .susp v g l k c p fs => (End.susp v g l k c p fs).quiet = true ∧ ∃ d x H, out i = some d ∧ RelV x v ∧ Rep G.K ⟨noM, wk.S⟩ H x d ∧ Since G a go wk s H ∧ Z (i + 1) (End.susp v g l k c p fs).genState s H wk.S
  | .ret r => (r = .ok (.ret .none) ∨ r = .ok .next) ∧ out i = none ∧ ∃ H, Since G a go wk s H
/-- asleep: what so many wakings will give -/
def Zz (G : GCx) (a : Addr) (go : Obj) (out : Nat → Option D) : Nat → Nat → GenState → Shared → Hp → (Addr → Prop) → Prop
  | 0, _, _, _, _, _ => True
  | n + 1, i, gs, s, H, S => ∀ wk : Wk, Slept2 G s H S wk.s wk.H wk.S → GoesX (model G.P G.w) G.A (PhiOf G a go out (Zz G a go out n) i wk) gs wk.s
abbrev Phi (G : GCx) (a : Addr) (go : Obj) (out : Nat → Option D) (n i : Nat) (wk : Wk) : End → Shared → Prop := PhiOf G a go out (Zz G a go out n) i wk
structure XEnds where
  nx : Nat → Nat → DS → Mp → Prop
  rt : Nat → Nat → Mp → Prop
  bk : Nat → Nat → DS → Mp → Prop := fun _ _ _ _ => False
  ct : Nat → Nat → DS → Mp → Prop := fun _ _ _ _ => False
abbrev DGn := XEnds → Nat → Nat → DS → Mp → Prop
structure GPos (G : GCx) (c : Code) (fs : List Frame) (gd : Bool → Bool) : Prop where
  over : G.A.over c fs = G.A.deeper G.env
  split : splitAtGen fs = none
  guard : fs.any Frame.guarded = false
  gd : gd false = false
structure Pins (G : GCx) (a : Addr) (go : Obj) (pins : List (Addr × Obj)) : Prop where
  me : (a, go) ∈ pins
  up : ∀ p ∈ pins, G.n0 ≤ p.1
theorem Lw.trans {M M1 M2 : Wd} {H H1 H2 : Hp} (a : Lw M H M1 H1) (b : Lw M1 H1 M2 H2) : Lw M H M2 H2 := fun x o h1 h2 h3 => let ⟨k1, k2, k3⟩ := a x o h1 h2 h3; b x o k1 k2 k3
def XP (G : GCx) (wk : Wk) (pins : List (Addr × Obj)) (gp : List (Nat × GenState)) (D : XEnds) (M0 : Wd) (H0 : Hp) (n i : Nat) (f : Flow) (s : Shared) : Prop :=
  ∃ σ H ds m, GAt G wk pins gp σ H s ds m ∧ Lw M0 H0 ⟨m, wk.S⟩ H ∧ match f with
  | .next => D.nx n i ds m
  | .brk => D.bk n i ds m
  | .cont => D.ct n i ds m
  | .ret u => u = .none ∧ D.rt n i m
theorem XP.mono {G : GCx} {wk : Wk} {pins : List (Addr × Obj)} {gp : List (Nat × GenState)} {D : XEnds} {M0 M1 : Wd} {H0 H1 : Hp} {n i : Nat} {f : Flow} {s : Shared} (l : Lw M0 H0 M1 H1) (h : XP G wk pins gp D M1 H1 n i f s) : XP G wk pins gp D M0 H0 n i f s :=
  let ⟨σ, H, ds, m, h1, h2, h3⟩ := h; ⟨σ, H, ds, m, h1, l.trans h2, h3⟩
section
variable {G : GCx} {a : Addr} {go : Obj} {out : Nat → Option D}
structure XS (G : GCx) (a : Addr) (go : Obj) (out : Nat → Option D) (st : Stmt) (t : DGn) : Prop where
  run : ∀ (n i : Nat) (wk0 : Wk) (pins : List (Addr × Obj)) (gp : List (Nat × GenState)) (c : Code) (fs : List Frame) (K : Flow → Sem PySem.Fin) (J : Value → Sem PySem.Fin) (gd : Bool → Bool) (lv : List Value → List Value) (s : Shared) (σ : L2.St) (H : Hp) (ds : DS) (m : Mp) (D : XEnds),
    GPos G c fs gd → Pins G a go pins → GAt G wk0 pins gp σ H s ds m → t D n i ds m →
    (∀ n i wk s f, XP G wk pins gp D ⟨m, wk0.S⟩ H n i f s → SegX (model G.P G.w) G.A (Phi G a go out n i wk) c (K f) fs s) →
    SegX (model G.P G.w) G.A (Phi G a go out n i wk0) c ((exec st G.env).wrap K J gd lv) fs s
structure XSs (G : GCx) (a : Addr) (go : Obj) (out : Nat → Option D) (st : List Stmt) (t : DGn) : Prop where
  run : ∀ (n i : Nat) (wk0 : Wk) (pins : List (Addr × Obj)) (gp : List (Nat × GenState)) (c : Code) (fs : List Frame) (K : Flow → Sem PySem.Fin) (J : Value → Sem PySem.Fin) (gd : Bool → Bool) (lv : List Value → List Value) (s : Shared) (σ : L2.St) (H : Hp) (ds : DS) (m : Mp) (D : XEnds),
    GPos G c fs gd → Pins G a go pins → GAt G wk0 pins gp σ H s ds m → t D n i ds m →
    (∀ n i wk s f, XP G wk pins gp D ⟨m, wk0.S⟩ H n i f s → SegX (model G.P G.w) G.A (Phi G a go out n i wk) c (K f) fs s) →
    SegX (model G.P G.w) G.A (Phi G a go out n i wk0) c ((execs st G.env).wrap K J gd lv) fs s
def tDone : DGn := fun D n i ds m => D.nx n i ds m
theorem xs_nil : XSs G a go out [] tDone := ⟨fun n i wk pins gs c fs K J gd lv s σ H ds m D gp pn h q k => x_nil (k n i wk s .next ⟨σ, H, ds, m, h, fun _ _ h1 h2 h3 => ⟨h1, h2, h3⟩, q⟩)⟩
def tThen (t u : DGn) : DGn := fun D n i ds m => t { D with nx := fun n i ds m => u D n i ds m } n i ds m
theorem xs_cons {st : Stmt} {rest : List Stmt} {t u : DGn} (h1 : XS G a go out st t) (h2 : XSs G a go out rest u) : XSs G a go out (st :: rest) (tThen t u) := by
  refine ⟨fun n i wk pins gs c fs K J gd lv s σ H ds m D gp pn h q k => x_cons ?_⟩
  refine h1.run n i wk pins gs c fs _ J gd lv s σ H ds m _ gp pn h q fun n i wk s f z => ?_
  obtain ⟨σ1, H1, ds1, m1, h1, l1, q1⟩ := z
  cases f with
  | next => exact h2.run n i wk pins gs c fs K J gd lv s σ1 H1 ds1 m1 D gp pn h1 q1 fun n i wk s f z => k n i wk s f (z.mono l1)
  | brk => exact k n i wk s .brk ⟨σ1, H1, ds1, m1, h1, l1, q1⟩
  | cont => exact k n i wk s .cont ⟨σ1, H1, ds1, m1, h1, l1, q1⟩
  | ret u => exact k n i wk s (.ret u) ⟨σ1, H1, ds1, m1, h1, l1, q1⟩
/-- what hands out nothing -/
def tOne (t : DSt) : DGn := fun D n i ds m => t { nx := D.nx n i, rt := fun d m => d = .non ∧ D.rt n i m, bk := D.bk n i, ct := D.ct n i } ds m
theorem xs_one {st : Stmt} {t : DSt} (h : ∀ sw Hw M0 H0, ES (G.x sw Hw) M0 H0 st t) : XS G a go out st (tOne t) := by
  refine ⟨fun n i wk pins gs c fs K J gd lv s σ H ds m D gp pn hh q k => x_wrap ?_⟩
  rw [gp.over]
  refine wpAny_mono (wpAny_beside ((h wk.s wk.H ⟨noM, wk.S⟩ wk.H).run pins (allPoison s) σ H
    { nx := fun σ H1 => ∃ ds m1, Le ⟨m, wk.S⟩ H ⟨m1, wk.S⟩ H1 ∧ RelM G.K ⟨m1, wk.S⟩ H1 ∧ RelS G.K ⟨m1, wk.S⟩ H1 σ ds ∧ D.nx n i ds m1
      bk := fun σ H1 => ∃ ds m1, Le ⟨m, wk.S⟩ H ⟨m1, wk.S⟩ H1 ∧ RelM G.K ⟨m1, wk.S⟩ H1 ∧ RelS G.K ⟨m1, wk.S⟩ H1 σ ds ∧ D.bk n i ds m1
      ct := fun σ H1 => ∃ ds m1, Le ⟨m, wk.S⟩ H ⟨m1, wk.S⟩ H1 ∧ RelM G.K ⟨m1, wk.S⟩ H1 ∧ RelS G.K ⟨m1, wk.S⟩ H1 σ ds ∧ D.ct n i ds m1
      rt := fun v H1 => v = .non ∧ ∃ m1, Le ⟨m, wk.S⟩ H ⟨m1, wk.S⟩ H1 ∧ RelM G.K ⟨m1, wk.S⟩ H1 ∧ D.rt n i m1 } (Inv.gens hh.inv rfl rfl (bare_all hh.inv.bare))
    ⟨ds, ⟨m, wk.S⟩, _, hh.le, hh.rm, hh.rs, q, ⟨fun ds' M' σ' H' q l rm rs => ?_, fun d M' v H' q l rm r => ?_, fun ds' M' σ' H' q l rm rs => ?_, fun ds' M' σ' H' q l rm rs => ?_⟩⟩)) (fun f s1 z => ?_) fun _ _ ⟨_, _, _, z⟩ => z
  · have eS : M'.s = wk.S := l.2
    obtain ⟨m', S'⟩ := M'
    cases eS
    exact ⟨ds', m', l, rm, rs, q⟩
  · have eS : M'.s = wk.S := l.2
    obtain ⟨m', S'⟩ := M'
    cases eS
    obtain ⟨rfl, q⟩ := q
    exact ⟨Rep.non_iff.mp r, m', l, rm, q⟩
  · have eS : M'.s = wk.S := l.2
    obtain ⟨m', S'⟩ := M'
    cases eS
    exact ⟨ds', m', l, rm, rs, q⟩
  · have eS : M'.s = wk.S := l.2
    obtain ⟨m', S'⟩ := M'
    cases eS
    exact ⟨ds', m', l, rm, rs, q⟩
  · obtain ⟨s0, rfl, P, z⟩ := z
    refine k n i wk _ f ?_
    cases f with
    | next => obtain ⟨σ', H', I, ds', m', l, rm, rs, q⟩ := z; exact ⟨σ', H', ds', m', hh.ran P I l rm rs, l.w, q⟩
    | brk => obtain ⟨σ', H', I, ds', m', l, rm, rs, q⟩ := z; exact ⟨σ', H', ds', m', hh.ran P I l rm rs, l.w, q⟩
    | cont => obtain ⟨σ', H', I, ds', m', l, rm, rs, q⟩ := z; exact ⟨σ', H', ds', m', hh.ran P I l rm rs, l.w, q⟩
    | ret u =>
      obtain ⟨v, σ', H', I, rv, ev, m', l, rm, q⟩ := z
      subst ev
      exact ⟨σ', H', List.replicate σ'.length none, m', hh.ran P I l rm (rs_none σ'), l.w, rv, q⟩
end
end Lt
/-! a generator hands out; its loops -/
namespace Lt
open PySem PySem.Spec PyProof.Rows L2 GenW
section
variable {G : GCx} {a : Addr} {go : Obj} {out : Nat → Option D}
def tYield (out : Nat → Option D) (te : DE) : DGn := fun D n i ds m => te ds m fun d m1 => m1 = noM ∧ out i = some d ∧ ∀ n', n = n' + 1 → D.nx n' (i + 1) ds noM
theorem xs_yield {e : Expr} {yp pos : Pos} {te : DE} (g : GOk G) (he : ∀ sw Hw M0 H0, EE (G.x sw Hw) M0 H0 e te) (hco : G.scope.isCoroutine = false) (hi : interactive G.env = false) :
    XS G a go out (.Expr (.Yield (some e) yp) pos) (tYield out te) := by
  refine ⟨fun n i wk pins gs c fs K J gd lv s σ H ds m D gp pn hh q k => ?_⟩
  rw [exec_Expr G.env _ pos hi rfl]
  show SegX _ _ _ c (.at pos fun _ => ((eval e G.env >>= fun v => (standAt yp >>= fun _ => yieldOut G.env v)) >>= fun x => dropValue (.Yield (some e) yp) pos x).wrap K J gd lv) fs s
  have hy : ∀ v, yieldOut G.env v = yieldValue v := fun v => by
    have hco : G.env.scope.isCoroutine = false := hco
    simp only [yieldOut, hco, Bool.false_eq_true, if_false]
  simp only [hy]
  refine x_at ?_
  rw [Sem.bind_eq_wrap', Sem.bind_eq_wrap', Sem.wrap_wrap, Sem.wrap_wrap]
  refine x_wrap ?_
  rw [gp.over]
  refine wpAny_mono (wpAny_beside ((he wk.s wk.H ⟨noM, wk.S⟩ wk.H).run pins (allPoison s) σ H
    (fun v H1 => ∃ d, Le ⟨m, wk.S⟩ H ⟨noM, wk.S⟩ H1 ∧ RelM G.K ⟨noM, wk.S⟩ H1 ∧ RelS G.K ⟨noM, wk.S⟩ H1 σ ds ∧ Rep G.K ⟨noM, wk.S⟩ H1 v d ∧ out i = some d ∧ ∀ n', n = n' + 1 → D.nx n' (i + 1) ds noM) (Inv.gens hh.inv rfl rfl (bare_all hh.inv.bare))
    ⟨ds, ⟨m, wk.S⟩, _, hh.le, hh.rm, hh.rs, q, fun d M' v H' q l rm r => ?_⟩)) (fun v s1 z => ?_) fun _ _ ⟨_, _, _, z⟩ => z
  · have eS : M'.s = wk.S := l.2
    obtain ⟨m', S'⟩ := M'
    cases eS
    obtain ⟨rfl, q1, q2⟩ := q
    exact ⟨d, l, rm, hh.rs.mono l.w, r, q1, q2⟩
  · obtain ⟨s0, rfl, P, x, H1, I1, rv, d, le, rm, rs, r, ho, q⟩ := z
    have at1 : GAt G wk pins gs σ H1 (Ung s.gens s0) ds noM := hh.ran P I1 le rm rs
    refine x_at (x_yield gp.split fun p => ?_)
    refine ⟨by simp [End.quiet, gp.gd, gp.guard], d, x, H1, ho, rv, r, at1.since pn.me, ?_⟩
    cases n with
    | zero => exact True.intro
    | succ n =>
      intro wk2 z
      exact k n (i + 1) wk2 wk2.s .next ⟨σ, wk2.H, ds, noM, ⟨z.ok, Inv.woke g at1.inv z pn.up, .refl, z.ok.rm, rs.mono z.lw, z.ok.gz, fun _ _ _ e _ => e, fun p hp => let ⟨h1, h2, h3⟩ := at1.gp p hp; ⟨h1, z.gn p.1 p.2 h1 h2 h3, h3⟩⟩, le.w.trans z.lw, q n rfl⟩
def tLoop (g : Tg) (tb : DGn) (D : XEnds) : List Lt.D → Nat → Nat → DS → Mp → Prop
  | [], n, i, ds, m => D.nx n i ds m
  | x :: r, n, i, ds, m => dTg g x ds fun ds1 => tb { D with nx := tLoop g tb D r, ct := tLoop g tb D r, bk := D.nx } n i ds1 m
def tForX (wi : DI) (g : Tg) (tb : DGn) : DGn := fun D n i ds m => wi ds m fun items m1 => tLoop g tb D items n i ds m1
theorem xs_for {tg iter : Expr} {body : List Stmt} {pos : Pos} {wi : DI} {g : Tg} {tb : DGn} (hi : ∀ sw Hw M0 H0, EI (G.x sw Hw) M0 H0 tg iter wi) (hg : ∀ sw Hw, EG (G.x sw Hw) tg g) (hb : XSs G a go out body tb)
    (hs : ∀ x, foldedSetIterable iter G.env x = pure x) : XS G a go out (.For tg iter body [] pos) (tForX wi g tb) := by
  refine ⟨fun n i wk pins gs c fs K J gd lv s σ H ds m D gp pn hh q k => x_for hs ?_⟩
  rw [gp.over]
  refine wpAny_mono (wpAny_beside ((hi wk.s wk.H ⟨noM, wk.S⟩ wk.H).run pins (allPoison s) σ H
    (fun J H1 => ∃ items m1, Le ⟨m, wk.S⟩ H ⟨m1, wk.S⟩ H1 ∧ RelM G.K ⟨m1, wk.S⟩ H1 ∧ Walks G.K ⟨m1, wk.S⟩ H1 items J ∧ tLoop g tb D items n i ds m1) (Inv.gens hh.inv rfl rfl (bare_all hh.inv.bare))
    ⟨ds, ⟨m, wk.S⟩, _, hh.le, hh.rm, hh.rs, q, fun items M' H' J q l rm w => ?_⟩)) (fun v s1 z => ?_) fun _ _ ⟨_, _, _, z⟩ => z
  · have eS : M'.s = wk.S := l.2
    obtain ⟨m', S'⟩ := M'
    cases eS
    exact ⟨items, m', l, rm, w, q⟩
  · obtain ⟨s01, rfl, P1, z⟩ := z
    refine wpAny_mono (wpAny_Ung P1 z) (fun itv s2 z => ?_) fun _ _ ⟨_, _, _, z⟩ => z
    intro kk p hk
    obtain ⟨s02, rfl, P2, it, fp, tn, J, H1, rfl, I1, T, st, fr, items, m1, l1, rm1, W, q⟩ := z
    have up : ∀ b ∈ fp, G.n0 ≤ b := fun b hb => by
      rcases (fr b hb).2.2.2.1 with z | z
      · exact absurd (show b ∈ ([] : List Addr) from z) (by simp)
      · have z : (cutHp wk.s.heap G.n0).objs.size ≤ b := z
        rw [cutHp_size hh.ok.sz] at z; exact z
    have stat : ∀ (wk : Wk), WkOk G wk.s wk.H wk.S → ∀ {H : Hp}, (∀ b ∈ fp, H b = none) → ∀ b ∈ fp, FpOk (G.x wk.s wk.H) pins H b := fun wk ok H hn b hb => by
      obtain ⟨_, f1, f2, _, f4, f5⟩ := fr b hb
      exact ⟨hn b hb, f1, f2, .inr (by show (cutHp wk.s.heap G.n0).objs.size ≤ b; rw [cutHp_size ok.sz]; exact up b hb), f4, f5⟩
    have ov : G.A.over (.forLoop tg (.ref it) body [] G.env) (.ret kk none (gd false) (lv []) c p [] :: fs) = G.A.deeper G.env := (over_loop rfl rfl).trans gp.over
    have gp2 : GPos G (.forLoop tg (.ref it) body [] G.env) (.ret kk none (gd false) (lv []) c p [] :: fs) id := ⟨ov, by
      show (splitAtGen fs).map _ = none
      rw [gp.split]; rfl, by
      show (gd false || fs.any Frame.guarded) = false
      rw [gp.gd, gp.guard]; rfl, rfl⟩
    have loop : ∀ (r j n i : Nat) (wk2 : Wk) (s : Shared) (σ : L2.St) (H : Hp) (ds : DS) (m : Mp), j + r = items.length → GAt G wk2 pins gs σ H s ds m → tn j s.heap → (∀ b ∈ fp, H b = none) → Lw ⟨m1, wk.S⟩ H1 ⟨m, wk2.S⟩ H → tLoop g tb D (items.drop j) n i ds m →
        SegX (model G.P G.w) G.A (Phi G a go out n i wk2) (.forLoop tg (.ref it) body [] G.env) ((model G.P G.w).den (.forLoop tg (.ref it) body [] G.env)) (.ret kk none (gd false) (lv []) c p [] :: fs) s := by
      intro r
      induction r with
      | zero =>
        intro j n i wk2 s σ H ds m hj h st fr2 lw q
        refine x_forLoop ?_
        rw [ov]
        obtain ⟨_, w2⟩ := W ⟨m, wk2.S⟩ H lw h.rm j
        refine wpAny_mono (wpAny_beside (T.done (G.x wk2.s wk2.H) rfl rfl rfl rfl j pins (allPoison s) σ H noX (Inv.gens h.inv rfl rfl (bare_all h.inv.bare)) (stat wk2 h.ok fr2) st (w2 (by omega)))) (fun r s1 z => ?_) fun _ _ ⟨_, _, _, z⟩ => z
        obtain ⟨s0, rfl, P, rfl, I⟩ := z
        refine x_leaf (.ok .next) ?_
        rw [hk]
        rw [List.drop_eq_nil_of_le (by omega)] at q
        exact k n i wk2 _ .next ⟨σ, H, ds, m, h.ran P I .refl h.rm h.rs, l1.w.trans lw, q⟩
      | succ r ih =>
        intro j n i wk2 s σ H ds m hj h st fr2 lw q
        have hlt : j < items.length := by omega
        obtain ⟨w1, _⟩ := W ⟨m, wk2.S⟩ H lw h.rm j
        obtain ⟨go1, y⟩ := w1 items[j] (List.getElem?_eq_getElem hlt)
        refine x_forLoop ?_
        rw [ov]
        refine wpAny_mono (wpAny_beside (T.item (G.x wk2.s wk2.H) rfl rfl rfl rfl j pins (allPoison s) σ H noX (Inv.gens h.inv rfl rfl (bare_all h.inv.bare)) (stat wk2 h.ok fr2) st go1)) (fun r1 s1 z => ?_) fun _ _ ⟨_, _, _, z⟩ => z
        obtain ⟨s10, rfl, P10, u, rfl, z⟩ := z
        refine wpAny_mono (wpAny_Ung P10 z) (fun _ s2 z => ?_) fun _ _ ⟨_, _, _, z⟩ => z
        obtain ⟨s20, rfl, P20, x, H2, I2, rx, yd, st2, fr3⟩ := z
        obtain ⟨l3, rm3, r3⟩ := y x H2 yd
        rw [List.drop_eq_getElem_cons hlt] at q
        have I3 := I2.pinned (stat wk2 h.ok fr3) (T.obj _ _ st2)
        refine wpAny_mono (wpAny_Ung P20 ((hg wk2.s wk2.H).run _ s20 σ H2 x u (fun σ' H' => H' = H2 ∧ ∃ ds', RelS G.K ⟨m, wk2.S⟩ H2 σ' ds' ∧ tb { D with nx := tLoop g tb D (items.drop (j + 1)), ct := tLoop g tb D (items.drop (j + 1)), bk := D.nx } n i ds' m) I3 rx
          (hTg_ok r3 (h.rs.mono l3.w) q fun σ' ds' kq rs' _ => ⟨rfl, ds', rs', kq⟩))) (fun _ s3 z => ?_) fun _ _ ⟨_, _, _, z⟩ => z
        obtain ⟨s30, rfl, P30, σ3, H3, I4, eH, ds3, rs3, q3⟩ := z
        subst eH
        intro J2
        have pn2 : Pins G a go (pins ++ pinsAt fp s20.heap) := ⟨List.mem_append_left _ pn.me, fun p hp => (List.mem_append.mp hp).elim (pn.up p) fun z => up _ (of_pinsAt z).1⟩
        refine hb.run n i wk2 (pins ++ pinsAt fp s20.heap) gs _ _ _ J2 id id _ σ3 H3 ds3 m _ gp2 pn2 (h.ran P30 I4 l3 rm3 rs3) q3 fun n' i' wk3 s4 f z => ?_
        obtain ⟨σ4, H4, ds4, m4, h4, lw4, z⟩ := z
        have lw5 := (lw.trans l3.w).trans lw4
        have h5 : GAt G wk3 pins gs σ4 H4 s4 ds4 m4 := ⟨h4.ok, h4.inv.unpinned, h4.le, h4.rm, h4.rs, h4.gz, h4.gk, h4.gp⟩
        have again : tLoop g tb D (items.drop (j + 1)) n' i' ds4 m4 → SegX (model G.P G.w) G.A (Phi G a go out n' i' wk3) (.forLoop tg (.ref it) body [] G.env) ((model G.P G.w).den (.forLoop tg (.ref it) body [] G.env)) (.ret kk none (gd false) (lv []) c p [] :: fs) s4 := fun q4 =>
          ih (j + 1) n' i' wk3 s4 σ4 H4 ds4 m4 (by omega) h5
            (T.keep _ _ _ st2 fun b hb o e => (h4.inv.pin (b, o) (List.mem_append_right _ (List.mem_append_right _ (mem_pinsAt hb e)))).1)
            (fun b hb => by
              obtain ⟨o, e, d⟩ := T.obj _ _ st2 b hb
              exact (h4.inv.pin (b, o) (List.mem_append_right _ (List.mem_append_right _ (mem_pinsAt hb e)))).2.1) lw5 q4
        cases f with
        | next => exact x_again rfl (again z)
        | cont => exact x_again rfl (again z)
        | brk =>
          refine x_leaf (.ok .next) ?_
          rw [hk]
          exact k n' i' wk3 s4 .next ⟨σ4, H4, ds4, m4, h5, l1.w.trans lw5, z⟩
        | ret u =>
          refine x_leaf (.ok (.ret u)) ?_
          rw [hk]
          exact k n' i' wk3 s4 (.ret u) ⟨σ4, H4, ds4, m4, h5, l1.w.trans lw5, z⟩
    exact loop items.length 0 n i wk _ σ H1 ds m1 (Nat.zero_add _) (hh.ran P2 I1 l1 rm1 (hh.rs.mono l1.w)) st (fun b hb => (fr b hb).1) (fun _ _ h1 h2 h3 => ⟨h1, h2, h3⟩) q
end
end Lt
/-! a generator def as a callee -/
namespace Lt
open PySem PySem.Spec PyProof.Rows L2 GenW
/-- all that may change, or is hidden -/
def hidAll (M : Wd) : Addr → Prop := fun a => M.m a ≠ none ∨ M.s a
theorem hidAll_rm {K : PySem.W.Frag} {M : Wd} {H : Hp} (rm : RelM K M H) : RelM K ⟨noM, hidAll M⟩ H := by
  refine ⟨fun a o e => (by cases e), fun a z => ⟨rfl, ?_⟩⟩
  rcases z with z | z
  · cases e : M.m a with
    | none => exact absurd e z
    | some mo =>
      have r := rm.o a mo e
      cases mo with
      | lst xs => obtain ⟨ys, h, _⟩ := r; exact ⟨_, h⟩
      | ins C fs => obtain ⟨dx, vs, h, _⟩ := r; exact ⟨_, h⟩
      | dct ks vs => obtain ⟨ys, h, _⟩ := r; exact ⟨_, h⟩
      | dn w ks vs => obtain ⟨ys, h, _⟩ := r; exact ⟨_, h⟩
  · obtain ⟨_, o, e⟩ := rm.h a z
    exact ⟨o, e⟩
theorem hidAll_lw {M : Wd} {H : Hp} : Lw M H ⟨noM, hidAll M⟩ H := fun a o h1 h2 h3 => ⟨rfl, fun z => z.elim (fun z => z h1) h2, h3⟩
theorem hidAll_back {M : Wd} {H : Hp} : Lw ⟨noM, hidAll M⟩ H M H := fun a o _ h2 h3 => ⟨Classical.byContradiction fun z => h2 (.inl z), fun z => h2 (.inr z), h3⟩
def MadeX (P : Program) (w : World) (K : PySem.W.Frag) (base : Heap) (k : Nat) (outer : List Env) (H : Hp) (s : Shared) (M : Wd) (out : Nat → Option D) (u : Value) (s' : Shared) : Prop :=
  ∃ (a g : Nat) (go : Obj) (c : Code), u = .ref a ∧ s'.heap.get? a = some go ∧ (∃ nm qn, go.cls = .type "generator" ∧ go.data = .fields #[.int g 0, nm, qn] ∧ go.slots = #[]) ∧ s'.gens[g]? = some (.fresh c) ∧ (s.gens.size = g ∧ s'.gens.size = g + 1 ∧ ∀ (i : Nat) (y : GenState), s.gens[i]? = some y → s'.gens[i]? = some y) ∧ s'.os = s.os ∧ AllBare s'.gens ∧
    (∀ b o, s.heap.get? b = some o → s'.heap.get? b = some o) ∧
    ∀ Aw : PySem.Around, Room k Aw → Aw.frames = some outer → ∃ G : GCx, G.P = P ∧ G.w = w ∧ G.K = K ∧ G.base = base ∧ G.A = Aw ∧ G.outer = outer ∧ G.os = s.os ∧ G.n0 = s.heap.objs.size ∧ G.g0 = g ∧ G.n0 < a ∧ WkOk G s' H (hidAll M) ∧ H a = none ∧
      ∀ n, Zz G a go out n 0 (.fresh c) s' H (hidAll M)
abbrev DGsp := List D → (Nat → Option D) → Prop
structure GenFn (P : Program) (w : World) (K : PySem.W.Frag) (mg : Str → Option Value) (base : Heap) (k : Nat) (f : Addr) (fd : FuncData) (ps : List Str) (gsp : DGsp) : Prop where
  len : ∀ xs out, gsp xs out → xs.length = ps.length
  run : ∀ (A : PySem.Around) (outer : List Env) (s : Shared) (H : Hp) (args : Args) (us : List Value) (vs : List V) (xs : List D) (M : Wd) (out : Nat → Option D), Room k A → Env0 P w K mg base A outer s H → BindsTo s fd args (ps.zip us) → Vals vs us → RelM K M H → Reps K M H vs xs → gsp xs out →
    codeAny (model P w) A (.call (.ref f) args) (fun r s' => match r with | .ok (.ret u) => MadeX P w K base k outer H s M out u s' | _ => False) s
structure GenCallee (P : Program) (w : World) (K : PySem.W.Frag) (mg : Str → Option Value) (base : Heap) (x : Str) (k : Nat) (ps : List Str) (gsp : DGsp) : Prop where
  ex : ∃ f fd, GenFn P w K mg base k f fd ps gsp ∧ mg x = some (.ref f) ∧ PySem.W.keepIn K (.ref f) = true ∧ Binds K fd ps []
theorem x_func {P : Program} {w : World} {A : PySem.Around} {Φ : End → Shared → Prop} {body : List Stmt} {env : Env} {fs : List Frame} {s : Shared}
    (q : ∀ J : Value → Sem PySem.Fin, SegX (model P w) A Φ (.func body env) ((execs body env).wrap (fun f => .pure (.done (.ret (match f with | .ret v => v | _ => .none)))) J id id) fs s) : SegX (model P w) A Φ (.func body env) ((model P w).den (.func body env)) fs s := by
  show SegX _ A Φ _ (.point [] fun _ => ((execs body env).onRaise (leaving env)) >>= _) fs s
  refine x_point ?_
  rw [Sem.onRaise_eq_wrap, Sem.bind_eq_wrap', Sem.wrap_wrap]
  refine Eq.mp ?_ (q fun e => (leaving env e).wrap (fun _ => .raise e) .raise id id)
  congr 1
  refine Sem.wrap_congr _ _ _ (fun f => by cases f <;> rfl) (fun e => ?_)
  rw [Sem.bind_eq_wrap, Sem.wrap_wrap]; rfl
theorem gen_mk {P : Program} {w : World} {K : PySem.W.Frag} {mg : Str → Option Value} {base : Heap} {x qual : Str} {st : Stmt} {f : Addr} {fd : FuncData} {N ps : List Str} {k : Nat} {gsp : DGsp} (F : Fun K x qual st f fd) (hmg : mg x = some (.ref f)) (S : GScope N ps (defScope st))
    (hb : ∀ (kV doc pm : Value) (an : Option Addr) (cdv ct : Value) (us : List Value), us.length = ps.length → bindArgs (PySem.W.fnOf x qual (defArgs st) (defBody st) (defScope st) .none kV doc pm an cdv ct) ⟨us, []⟩ = pure (ps.zip us))
    (hcl : ∀ n, cellsFrom n (defScope st).names [] = []) (hnc : ∀ x, (defScope st).names.lookup x ≠ some .cell ∧ (defScope st).names.lookup x ≠ some .free)
    (len : ∀ xs out, gsp xs out → xs.length = ps.length)
    (hbody : ∀ (cdv : Value) (A : PySem.Around) (outer : List Env) (n0 : Nat) (os : OsState) (g0 : Nat) (a : Addr) (go : Obj) (xs : List D) (out : Nat → Option D), Room k (A.deeper (envOfC qual (defScope st) n0 f cdv)) → GOk ⟨P, w, K, mg, base, N, qual, defScope st, f, cdv, A, outer, n0, os, g0⟩ → gsp xs out →
      ∃ t, XSs ⟨P, w, K, mg, base, N, qual, defScope st, f, cdv, A, outer, n0, os, g0⟩ a go out (defBody st) t ∧ ∀ n, t { nx := fun _ i _ m => m = noM ∧ out i = none, rt := fun _ i m => m = noM ∧ out i = none } n 0 (xs.map some ++ List.replicate (N.length - xs.length) none) noM) :
    GenCallee P w K mg base x (k + 1) ps gsp := by
  refine ⟨f, fd, ?_, hmg, F.kp, F.binds hb⟩
  obtain ⟨oc, od, kV, doc, pm, an, cdv, ct, osl, rfl, lk, hcd⟩ := F.ex
  refine ⟨len, fun A outer s H args us vs xs M out hr e0 hbt r rm rr hsp => ?_⟩
  have hl : vs.length = ps.length := by rw [rr.len]; exact len _ _ hsp
  have KX : K.In s.heap := e0.mod.kin.keeps fun b o e => (e0.bs b o e).1
  have lim : s.heap.NoLimit := e0.mod.nolimit.keeps fun b o e => (e0.bs b o e).1
  have hkind : ∀ y ∈ ps.zip us, (defScope st).names.lookup y.1 = some .local ∨ ((defScope st).names.lookup y.1 = some .cell ∧ ((cellsFrom (s.heap.objs.size + 1) (defScope st).names []).lookup y.1).isSome = true) := fun ⟨n, v⟩ hy => by
    rcases S.par n (List.of_mem_zip hy).1 with q | q
    · exact .inl q
    · exact ((hnc n).1 q).elim
  refine codeAny_call_generator hr.depth (KX _ _ lk) rfl S.co S.gen rfl (PySem.W.codeRec_of KX hcd) (hbt _ _ _ _ ?_)
  refine wpAny_newFunctionEnv_cells S.kind hkind fun env he s1 y => ?_
  subst he
  refine ⟨lim.keeps y.toInCall.keep, ?_⟩
  obtain ⟨h1, tk, es1, hk1⟩ := y.done
  have os1 : s1.os = s.os := by rw [es1]
  have gen1 : s1.gens = s.gens := by rw [es1]
  have lt1 : s.heap.objs.size < s1.heap.objs.size := y.toInCall.ns.lt
  have kp1 : ∀ b o, s.heap.get? b = some o → s1.heap.get? b = some o := y.toInCall.keep
  have I1 := inv_startG (E := fun _ _ _ => False) S hr.hd e0 hl r y
  have main : ∀ (go : Obj) (nm qn : Value) (tk2 : Nat), go.cls = .type "generator" → go.data = .fields #[.int s1.gens.size 0, nm, qn] → go.slots = #[] → (s1.heap.push go).get? s1.heap.objs.size = some go →
      MadeX P w K base (k + 1) outer H s M out (.ref s1.heap.objs.size) { s1 with gens := s1.gens.push (.fresh (.func (defBody st) (envOfC qual (defScope st) s.heap.objs.size f cdv))), toks := tk2, heap := s1.heap.push go } := by
    intro go nm qn tk2 g1 g2 g3 g4
    have kp2 : ∀ b o, s1.heap.get? b = some o → (s1.heap.push go).get? b = some o := fun b o e => Heap.get?_push_of_some _ e
    have bare : AllBare (s1.gens.push (.fresh (.func (defBody st) (envOfC qual (defScope st) s.heap.objs.size f cdv)))) := AllBare.push (by rw [gen1]; exact e0.bare) rfl
    refine ⟨s1.heap.objs.size, s1.gens.size, go, _, rfl, g4, ⟨nm, qn, g1, g2, g3⟩, Array.getElem?_push_size .., ⟨by rw [gen1], Array.size_push .., fun i y e => by show (s1.gens.push _)[i]? = _; rw [gen1, Array.getElem?_push, if_neg (Nat.ne_of_lt (Array.getElem?_eq_some_iff.mp e).1)]; exact e⟩, os1, bare, fun b o e => kp2 b o (kp1 b o e), fun Aw hrw hfr => ?_⟩
    have gok : GOk ⟨P, w, K, mg, base, N, qual, defScope st, f, cdv, Aw, outer, s.heap.objs.size, s.os, s1.gens.size⟩ := ⟨e0.mod, S.kind, hcl _, hnc, hrw.hd, hfr⟩
    have wok : WkOk ⟨P, w, K, mg, base, N, qual, defScope st, f, cdv, Aw, outer, s.heap.objs.size, s.os, s1.gens.size⟩ { s1 with gens := s1.gens.push (.fresh (.func (defBody st) (envOfC qual (defScope st) s.heap.objs.size f cdv))), toks := tk2, heap := s1.heap.push go } H (hidAll M) := by
      refine ⟨os1, bare, (e0.hok.kept kp1).kept kp2, fun b o e => ⟨kp2 b o (kp1 b o (e0.bs b o e).1), (e0.bs b o e).2⟩, e0.bsz, ?_, funs_cut (fun b _ o e => kp2 b o (kp1 b o e)) e0.funs, fun b hb => ⟨e0.frf b hb, ?_⟩, hidAll_rm rm, by show s1.gens.size < (s1.gens.push _).size; rw [Array.size_push]; exact Nat.lt_succ_self _⟩
      · show s.heap.objs.size ≤ (s1.heap.push go).objs.size
        rw [Heap.size_push]; exact Nat.le_succ_of_le (Nat.le_of_lt lt1)
      · obtain ⟨_, o, ho, _⟩ := e0.funs.mem hb
        exact Heap.lt_size ho
    have hfa : H s1.heap.objs.size = none := I1.hok.fresh (Nat.le_refl _)
    refine ⟨⟨P, w, K, mg, base, N, qual, defScope st, f, cdv, Aw, outer, s.heap.objs.size, s.os, s1.gens.size⟩, rfl, rfl, rfl, rfl, rfl, rfl, rfl, rfl, rfl, lt1, wok, hfa, fun n => ?_⟩
    cases n with
    | zero => exact True.intro
    | succ n =>
      intro wk z
      obtain ⟨t, ht, hq⟩ := hbody cdv Aw outer s.heap.objs.size s.os s1.gens.size s1.heap.objs.size go xs out (hrw.deeper _) gok hsp
      have I2 : Inv (GCx.x ⟨P, w, K, mg, base, N, qual, defScope st, f, cdv, Aw, outer, s.heap.objs.size, s.os, s1.gens.size⟩ { s1 with gens := s1.gens.push (.fresh (.func (defBody st) (envOfC qual (defScope st) s.heap.objs.size f cdv))), toks := tk2, heap := s1.heap.push go } H) [(s1.heap.objs.size, go)] (start N vs) H
          { s1 with gens := s1.gens.push (.fresh (.func (defBody st) (envOfC qual (defScope st) s.heap.objs.size f cdv))), toks := tk2, heap := s1.heap.push go } := by
        obtain ⟨m, ⟨o, es, ep, ho, hd, hk⟩, hlk⟩ := I1.loc
        refine gx_inv gok wok ⟨m, ⟨o, es, ep, kp2 _ _ ho, hd, hk⟩, fun i y v e1 e2 e3 => ?_⟩ I1.free (fun p hp => ?_) I1.len
        · obtain ⟨u, ru, q⟩ := hlk i y v e1 e2 e3
          refine ⟨u, ru, ?_⟩
          rcases q with q | ⟨q, _⟩
          · exact .inl q
          · have q : (defScope st).names.lookup y = some .cell ∨ (defScope st).names.lookup y = some .free := q
            rcases q with q | q
            · exact ((hnc y).1 q).elim
            · exact ((hnc y).2 q).elim
        · rw [List.mem_singleton.mp hp]
          exact ⟨g4, hfa, Nat.ne_of_gt lt1, I1.nofs (Nat.le_refl _), fun v q => by rw [g2] at q; cases q⟩
      have hup : ∀ p ∈ [(s1.heap.objs.size, go)], s.heap.objs.size ≤ p.1 := fun p hp => by rw [List.mem_singleton.mp hp]; exact Nat.le_of_lt lt1
      have I3 := Inv.woke gok I2 z hup
      refine x_func fun J => ?_
      refine ht.run n 0 wk [(s1.heap.objs.size, go)] [] _ [] _ J id id wk.s (start N vs) wk.H _ noM _ ⟨over_func, rfl, rfl, rfl⟩ ⟨List.mem_singleton.mpr rfl, hup⟩ ⟨z.ok, I3, .refl, z.ok.rm, ?_, z.ok.gz, fun _ _ _ e _ => e, fun p hp => absurd hp (by simp)⟩ (hq n) fun n' i' wk' s' fl zz => ?_
      · unfold L2.start
        rw [rr.len]
        exact RelS.append ((rr.mono hidAll_lw).mono z.lw).slots (RelS.repl _)
      · obtain ⟨σ', H', ds', m', h', _, q⟩ := zz
        cases fl with
        | next =>
          obtain ⟨rfl, q⟩ := q
          exact x_end (.ok (.ret .none)) ⟨.inl rfl, q, H', h'.since (List.mem_singleton.mpr rfl)⟩
        | brk => exact q.elim
        | cont => exact q.elim
        | ret u =>
          obtain ⟨rfl, rfl, q⟩ := q
          exact x_end (.ok (.ret .none)) ⟨.inl rfl, q, H', h'.since (List.mem_singleton.mpr rfl)⟩
  exact main _ _ _ _ rfl rfl rfl (Heap.get?_push_size _ rfl)
end Lt
/-! for over a generator -/
namespace Lt
open PySem PySem.Spec PyProof.Rows L2 GenW
section
variable {P : Program} {w : World} {A : PySem.Around} {E : Value → Shared → Prop} {s : Shared}
theorem resumeX {M : Model} {Φ : End → Shared → Prop} {g : Nat} {gs : GenState} {l : List Value} {α : Type} {k : GenResult → Sem α} {Q : α → Shared → Prop} (e0 : s.gens[g]? = some gs) (h : GoesX M A Φ gs (s.setGen g .running))
    (q : ∀ e s1, s.gens.size ≤ s1.gens.size → Φ e s1 → e.quiet = true ∧ wpAny M A (k e.result) Q E (s1.setGen g e.genState)) : wpAny M A (.resume g (.send .none) l k) Q E s := fun Γ p i => by
  rw [Sem.wp_resume]
  cases gs with
  | fresh c =>
    obtain ⟨e, s1, r, f⟩ := h (Γ.wake c p) p rfl (i.wake c p)
    obtain ⟨z1, z2⟩ := q e s1 (by have := runs_gsz r; rw [GenW.setGen_size] at this; exact this) f
    exact ⟨_, _, by unfold Wakes; rw [e0]; exact ⟨e, s1, r, z1, rfl, rfl⟩, z2 Γ p i⟩
  | suspended k0 l0 c p0 fs cl =>
    obtain ⟨e, s1, r, f⟩ := h (Γ.wake c p) p0 rfl (i.wake c p)
    obtain ⟨z1, z2⟩ := q e s1 (by have := runs_gsz r; rw [GenW.setGen_size] at this; exact this) f
    exact ⟨_, _, by unfold Wakes; rw [e0]; exact ⟨e, s1, r, z1, rfl, rfl⟩, z2 Γ p i⟩
  | running => exact h.elim
  | finished => exact h.elim
theorem nextX {Φ : End → Shared → Prop} {a : Addr} {g : Nat} {gs : GenState} {Q : Option Value → Shared → Prop} (c1 : A.handled = none) (c2 : s.heap.NoLimit) (c3 : A.depth < recursionLimit) (c4 : s.heap.IsGen a g) (c5 : s.gens[g]? = some gs) (h : GoesX (model P w) A.in1 Φ gs (s.setGen g .running))
    (q : ∀ e s1, s.gens.size ≤ s1.gens.size → Φ e s1 → match e with
      | .susp v b l k c p fs => (End.susp v b l k c p fs).quiet = true ∧ Q (some v) (s1.setGen g (End.susp v b l k c p fs).genState)
      | .ret r => (r = .ok (.ret .none) ∨ r = .ok .next) ∧ ∀ h', (∀ b o, s1.heap.get? b = some o → h'.get? b = some o) → Q none { s1.setGen g .finished with heap := h' }) :
    wpAny (model P w) A (pyNext (.ref a)) Q E s := by
  unfold pyNext
  refine wpAny_bind (wpAny_attempt ?_)
  refine wpAny_callSpecial?_slot (name := Str.ofString "__next__") c4.typeIs slot_gen_next ?_
  refine wpAny_call_entry slot_gen_next c4.typeIs entry_gen_next ?_ (args_gen_next _)
  show wpAny _ A.in1 (Builtin.Generator.genWake (.ref a) (.send .none)) _ _ s
  unfold Builtin.Generator.genWake
  refine wpAny_bind (wpAny_holding ?_)
  refine wpAny_genNumber c4 (wpAny_bind (wpAny_genState c5 ?_))
  cases gs with
  | running => exact h.elim
  | finished => exact h.elim
  | _ =>
    refine wpAny_bind (wpAny_roomToWake c2 c3 ?_)
    show wpAny _ A.in1 (.resume g (.send .none) [] _) _ _ s
    refine resumeX c5 h fun e s1 gz f => ?_
    have z := q e s1 gz f
    cases e with
    | susp v b l k c p fs => exact ⟨z.1, wpAny_pure ⟨v, rfl, wpAny_pure z.2⟩⟩
    | ret r =>
      obtain ⟨z1, z2⟩ := z
      refine ⟨rfl, ?_⟩
      have hres : End.result (.ret r) = .returned .none := by rcases z1 with rfl | rfl <;> rfl
      rw [hres]
      show wpAny _ A.in1 (newExc (.type "StopIteration") [] >>= _) _ _ _
      refine wpAny_bind ?_
      simp only [newExc, newTuple]
      refine wpAny_bind (wpAny_newObj_type ?_ (by size_fits))
      refine wpAny_bind (m := firstArgMember _ _) ?_
      refine wpAny_of_eq (a := Value.none) (by first | rfl | (simp only [firstArgMember]; rfl)) ?_
      refine wpAny_newObj_type ?_ (by size_fits)
      simp only [raiseNew]
      have hn : A.in1.handled = none := c1
      refine wpAny_bind (wpAny_bind (wpAny_handled ?_))
      rw [hn]
      refine wpAny_throw ?_
      refine wpAny_bind (wpAny_isInstance (T := "StopIteration") (b := true) ⟨_, Heap.get?_push_size _ rfl, rfl⟩ isSubtype_stop ?_)
      refine wpAny_pure ?_
      exact z2 _ fun b o e => Heap.get?_push_of_some _ (Heap.get?_push_of_some _ e)
end
end Lt
/-! for x in g(..) over a generator def -/
namespace Lt
open PySem PySem.Spec PyProof.Rows L2 GenW
def sForG (gsp : DGsp) (ts : DA) (g : Tg) (tb : DSt) : DSt := fun D' ds M => ts ds M fun xs M1 => ∃ out, gsp xs out ∧ ∃ P : Nat → Nat → DS → Mp → Prop, (∃ m, P m 0 ds M1) ∧ ∀ m i ds M, P m i ds M → match out i with
  | none => D'.nx ds M
  | some d => dTg g d ds fun ds1 => tb { D' with nx := fun ds M => ∃ m', m' < m ∧ P m' (i + 1) ds M, ct := fun ds M => ∃ m', m' < m ∧ P m' (i + 1) ds M, bk := D'.nx } ds1 M
def noCell (o : Obj) : Bool := match o.data with
  | .cell _ => false
  | _ => true
/-- all raw things of a generator -/
def bigPins (n0 : Nat) (h : Heap) (H : Hp) : List (Addr × Obj) := ((List.range h.objs.size).filterMap fun b => (h.get? b).map fun o => (b, o)).filter fun p => (decide (n0 ≤ p.1) && (H p.1).isNone) && noCell p.2
theorem mem_bigPins {n0 : Nat} {h : Heap} {H : Hp} {b : Addr} {o : Obj} (e : h.get? b = some o) (h1 : n0 ≤ b) (h2 : H b = none) (h3 : ∀ v, o.data ≠ .cell v) : (b, o) ∈ bigPins n0 h H := by
  refine List.mem_filter.mpr ⟨List.mem_filterMap.mpr ⟨b, List.mem_range.mpr (Heap.lt_size e), by rw [e]; rfl⟩, ?_⟩
  have q : noCell o = true := by
    unfold noCell
    cases q : o.data with
    | cell v => exact absurd q (h3 v)
    | _ => rfl
  rw [h2, q, decide_eq_true h1]; rfl
theorem of_bigPins {n0 : Nat} {h : Heap} {H : Hp} {p : Addr × Obj} (hp : p ∈ bigPins n0 h H) : h.get? p.1 = some p.2 ∧ n0 ≤ p.1 ∧ H p.1 = none ∧ ∀ v, p.2.data ≠ .cell v := by
  obtain ⟨h1, h2⟩ := List.mem_filter.mp hp
  rw [Bool.and_eq_true, Bool.and_eq_true] at h2
  obtain ⟨b, _, e⟩ := List.mem_filterMap.mp h1
  cases q : h.get? b with
  | none => rw [q] at e; cases e
  | some o =>
    rw [q] at e
    cases e
    refine ⟨q, of_decide_eq_true h2.1.1, Option.isNone_iff_eq_none.mp h2.1.2, fun v zz => ?_⟩
    have z := h2.2
    unfold noCell at z
    rw [show (b, o).2.data = Data.cell v from zz] at z
    cases z
theorem Inv.toNox {X : Cx} {pins : List (Addr × Obj)} {σ : L2.St} {H : Hp} {s : Shared} (I : Inv X pins σ H s) : Inv X.nox pins σ H s := I.wish _
theorem Inv.ofNox {X : Cx} {pins : List (Addr × Obj)} {σ : L2.St} {H : Hp} {s : Shared} (I : Inv X.nox pins σ H s) : Inv X pins σ H s := I.unwish
section
variable {X : Cx} {M0 : Wd} {H0 : Hp}
theorem s_forG {x : Str} {k : Nat} {ps : List Str} {gsp : DGsp} {e : Expr} {es : List Expr} {ts : DA} {tg : Expr} {g : Tg} {body : List Stmt} {tb : DSt} {p pos pos' : Pos}
    (C : GenCallee X.prog X.w X.K X.mg X.base x k ps gsp) (hr : Room (k + 1) X.A) (hg : Gl X x) (hc : X.calm = true) (ha : EA X M0 H0 (e :: es) ts) (hgt : EG X.nox tg g) (hb : ∀ M0 H0, EB X.nox M0 H0 body tb)
    (hdb : (x == ("__debug__" : Str)) = false := by decide) (he : starEach (e :: es) X.env = (false, eval e X.env) :: starEach es X.env := by rfl) (hpl : (backTo pos' (starEach es X.env)).any (·.1) = false := by rfl)
    (hs : ∀ y, foldedSetIterable (.Call (.Name x p) (e :: es) [] pos') X.env y = pure y := by intro _; rfl) :
    ES X M0 H0 (.For tg (.Call (.Name x p) (e :: es) [] pos') body [] pos) (sForG gsp ts g tb) := by
  refine ⟨fun pins s σ H D I h => ?_⟩
  obtain ⟨ds, M, D', le, rm, rs, h, hq⟩ := h
  obtain ⟨f, fd, F, hm, hk, hbd⟩ := C.ex
  refine wpAny_For ?_ hs
  refine wpAny_Call_Name_kw (ld_glob I hg hm ?_ hdb)
  refine PySem.W.callWith_K (h₀ := X.base) I.ok.mod.kin hk (thn (ha.run pos' pins s σ H (fun vs H1 => ∃ xs M1, (∃ out, gsp xs out ∧ ∃ P : Nat → Nat → DS → Mp → Prop, (∃ m, P m 0 ds M1.m) ∧ ∀ m i ds M, P m i ds M → match out i with
      | none => D'.nx ds M
      | some d => dTg g d ds fun ds1 => tb { D' with nx := fun ds M => ∃ m', m' < m ∧ P m' (i + 1) ds M, ct := fun ds M => ∃ m', m' < m ∧ P m' (i + 1) ds M, bk := D'.nx } ds1 M) ∧ Le M H M1 H1 ∧ RelM X.K M1 H1 ∧ Reps X.K M1 H1 vs xs) I
    ⟨ds, M, _, le, rm, rs, h, fun xs M1 vs H1 q l rm1 r1 => ⟨xs, M1, q, l, rm1, r1⟩⟩) fun us s1 ⟨vs, H1, I1, r, xs, M1, ⟨out, hsp, P, ⟨m0, p0⟩, hP⟩, l1, rm1, rr⟩ => ⟨I1.kIn, ?_⟩) he hpl
  have hl2 : (us ++ []).length = ps.length := by
    rw [List.append_nil, ← r.length, rr.len]; exact F.len _ _ hsp
  have hbt := hbd s1 us I1.kIn hl2
  rw [List.append_nil] at hbt
  refine wpAny_call (codeAny_mono (F.run X.A X.stack s1 H1 ⟨us, []⟩ us vs xs M1 out (hr.mono (Nat.le_succ k)) I1.env0 hbt r rm1 rr hsp) fun res s2 made => ?_)
  cases res with
  | error e => exact made.elim
  | ok fl =>
    cases fl with
    | next => exact made.elim
    | brk => exact made.elim
    | cont => exact made.elim
    | ret u =>
      obtain ⟨a, g0, go, c, rfl, hgo, ⟨nm, qn, g1, g2, g3⟩, hgs, ⟨_, _, _⟩, hos, hbare, hkp, hG⟩ := made
      have I2 : Inv X pins σ H1 s2 := I1.call' (ch := []) hos (Un.kept hkp) (I1.hok.kept hkp) hbare fun b z => by cases z
      obtain ⟨G, eP, ew, eK, eB, eA, eo, eos, en, eg, hna, wok, hfa, hz⟩ := hG X.A.in1 hr.in1 I1.ok.frames
      have isg : s2.heap.IsGen a g0 := ⟨go, nm, qn, hgo, g1, g2, g3⟩
      refine wpAny_pyIter_gen isg ?_
      have lowL : X.env.locals < G.n0 := by rw [en]; exact I1.lt
      have lowS : X.s_0.heap.objs.size ≤ G.n0 := by rw [en]; exact I1.sz
      have lowC : ∀ y c, X.env.cells.lookup y = some c → c < G.n0 := fun y c e => by
        obtain ⟨v, q⟩ := I1.cell y c e
        rw [en]; exact q.lt
      have lowP : ∀ p ∈ X.pn ++ pins, p.1 < G.n0 := fun p hp => by rw [en]; exact Heap.lt_size (I1.pin p hp).1
      have lowF : ∀ b ∈ X.fs, b < G.n0 := fun b hb => by
        obtain ⟨_, o, ho, _⟩ := I1.ok.funs.mem hb
        exact Nat.lt_of_lt_of_le (Heap.lt_size ho) lowS
      have hos1 : s1.os = X.s_0.os := I1.os
      refine codeAny_forLoop_any (fun n s3 => ∃ (i : Nat) (σ3 : L2.St) (ds3 : DS) (M3 : Wd) (H3 : Hp) (gs : GenState) (sP : Shared) (HP : Hp) (SP : Addr → Prop) (N : Nat), Inv X pins σ3 H3 s3 ∧ Le M1 H1 M3 H3 ∧ RelM X.K M3 H3 ∧ RelS X.K M3 H3 σ3 ds3 ∧ P n i ds3 M3.m ∧ n < N ∧
        s3.gens[g0]? = some gs ∧ s3.heap.get? a = some go ∧ Zz G a go out N i gs sP HP SP ∧ Slept2 G sP HP SP s3 H3 (hidAll M3)) ?_ m0 ⟨0, σ, ds, M1, H1, .fresh c, s2, H1, hidAll M1, m0 + 1, I2, .refl, rm1, rs.mono l1.w, p0, Nat.lt_succ_self _, hgs, hgo, hz _, wok, fun b o _ h1 h2 _ => ⟨h1, h2⟩, fun _ _ h1 h2 h3 => ⟨h1, h2, h3⟩, fun _ _ _ e _ => e⟩
      rintro n s3 ⟨i, σ3, ds3, M3, H3, gs, sP, HP, SP, N, I3, l3, rm3, rs3, p3, hN, hgs3, hgo3, zz, sl⟩
      obtain ⟨N, rfl⟩ : ∃ N', N = N' + 1 := ⟨N - 1, by omega⟩
      have wk0 : WkOk G (s3.setGen g0 .running) H3 (hidAll M3) := ⟨sl.ok.os, allBare_setGen sl.ok.bare rfl, sl.ok.hok, sl.ok.bs, sl.ok.bsz, sl.ok.sz, sl.ok.funs, sl.ok.frf, sl.ok.rm, by rw [GenW.setGen_size]; exact sl.ok.gz⟩
      have go1 := zz ⟨s3.setGen g0 .running, H3, hidAll M3⟩ ⟨wk0, sl.own, sl.lw, fun g x h1 h2 h3 => by rw [setGen_get, if_neg (by omega)]; exact sl.gn g x h1 h2 h3⟩
      have go2 : GoesX (model X.prog X.w) X.A.in1 (PhiOf G a go out (Zz G a go out N) i ⟨s3.setGen g0 .running, H3, hidAll M3⟩) gs (s3.setGen g0 .running) := by
        rw [eP, ew, eA] at go1; exact go1
      have isg3 : s3.heap.IsGen a g0 := ⟨go, nm, qn, hgo3, g1, g2, g3⟩
      have step := hP n i ds3 M3.m p3
      -- what the generator did, seen from here
      have seen : ∀ (s4 : Shared) (H4 : Hp) (x : GenState), x.bare = true → Since G a go ⟨s3.setGen g0 .running, H3, hidAll M3⟩ s4 H4 → Inv X pins σ3 H4 (s4.setGen g0 x) ∧ Le M3 H3 M3 H4 ∧ RelM X.K M3 H4 := fun s4 H4 x hx si => by
        have all : ∀ b o, H3 b = some o → H4 b = some o := fun b o e => (si.le.1 b o rfl e).2
        have l4 : Le M3 H3 M3 H4 := ⟨fun b o h1 h2 => ⟨h1, all b o h2⟩, rfl⟩
        refine ⟨I3.call' (ch := chOf G ⟨s3.setGen g0 .running, H3, hidAll M3⟩) ?_ ?_ ?_ (allBare_setGen si.bare hx) fun b hb => ?_, l4, ⟨fun b o e => ?_, fun b z => ?_⟩⟩
        · show s4.os = s3.os
          rw [si.os, eos, hos1, I3.os]
        · have u := si.un
          rw [eo] at u; exact u
        · have u := si.hok
          rw [eP, ew] at u; exact u
        · have q := of_chOf hb
          exact ⟨.inr (Nat.le_trans lowS q), Nat.ne_of_gt (Nat.lt_of_lt_of_le lowL q), fun y c e => Nat.ne_of_lt (Nat.lt_of_lt_of_le (lowC y c e) q), fun p hp => Nat.ne_of_lt (Nat.lt_of_lt_of_le (lowP p hp) q)⟩
        · have r := rm3.o b o e
          refine r.mono l4.w ?_
          cases o with
          | lst xs => obtain ⟨ys, h, _⟩ := r; rw [h, all b _ h]
          | ins C fs => obtain ⟨dx, ys, h, _⟩ := r; rw [h, all b _ h]
          | dct ks vs => obtain ⟨ys, h, _⟩ := r; rw [h, all b _ h]
          | dn w ks vs => obtain ⟨ys, h, _⟩ := r; rw [h, all b _ h]
        · obtain ⟨h1, o, h2⟩ := rm3.h b z
          exact ⟨h1, o, all b o h2⟩
      refine nextX (I3.ok.hd hc) I3.nolimit hr.depth isg3 hgs3 go2 fun e s4 gz φ => ?_
      cases e with
      | ret res =>
        obtain ⟨h1, h2, H4, si⟩ := φ
        refine ⟨h1, fun h' hk' => ?_⟩
        rw [h2] at step
        obtain ⟨I4, l4, rm4⟩ := seen s4 H4 .finished rfl si
        have I5 : Inv X pins σ3 H4 { s4.setGen g0 .finished with heap := h' } := I4.kept (t' := (s4.setGen g0 .finished).toks) hk'
        exact wpAny_execs_nil ⟨σ3, H4, I5, hq.nx ds3 M3 σ3 H4 step ((l1.trans l3).trans l4) rm4 (rs3.mono l4.w)⟩
      | susp v b l k' c' p' fs' =>
        obtain ⟨h1, d, x', H4, h2, rv, rd, si, z2⟩ := φ
        refine ⟨h1, ?_⟩
        rw [h2] at step
        have hbr : (End.susp v b l k' c' p' fs').genState.bare = true := End.bare_of_quiet h1
        have hsus : isSus (End.susp v b l k' c' p' fs').genState = true := rfl
        generalize hgx : (End.susp v b l k' c' p' fs').genState = gs4 at hbr hsus z2 ⊢
        obtain ⟨I4, l4, rm4⟩ := seen s4 H4 gs4 hbr si
        have hgo4 : (s4.setGen g0 gs4).heap.get? a = some go := si.obj
        refine go_of hgo4 g1 g2 (by decide) ?_
        have I5 : Inv X (pins ++ bigPins G.n0 (s4.setGen g0 gs4).heap H4) σ3 H4 (s4.setGen g0 gs4) := I4.pins_of fun p hp => by
          rcases List.mem_append.mp hp with hp | hp
          · exact I4.pin p (List.mem_append_right _ hp)
          · obtain ⟨e1, e2, e3, e4⟩ := of_bigPins hp
            exact ⟨e1, e3, Nat.ne_of_gt (Nat.lt_of_lt_of_le lowL e2), fun z => absurd (Nat.lt_of_lt_of_le (lowF _ z) e2) (Nat.lt_irrefl _), e4⟩
        have rd4 : Rep X.K M3 H4 x' d := by
          rw [eK] at rd
          exact rd.mono hidAll_back
        have hgl : g0 < s4.gens.size := Nat.lt_of_lt_of_le (Array.getElem?_eq_some_iff.mp hgs3).1 gz
        have hg5 : (s4.setGen g0 gs4).gens[g0]? = some gs4 := setGen_at hgl
        have hnoc : ∀ v, go.data ≠ .cell v := fun v q => by rw [g2] at q; cases q
        have hA := hgt.run _ (allPoison (s4.setGen g0 gs4)) σ3 H4 x' v (fun σ' H' => H' = H4 ∧ ∃ ds', RelS X.K M3 H4 σ' ds' ∧ tb { D' with nx := fun ds M => ∃ m', m' < n ∧ P m' (i + 1) ds M, ct := fun ds M => ∃ m', m' < n ∧ P m' (i + 1) ds M, bk := D'.nx } ds' M3.m)
          (Inv.gens (Inv.toNox I5) rfl rfl (bare_all I5.bare)) rv (hTg_ok rd4 (rs3.mono l4.w) step fun σ' ds' kq rs' _ => ⟨rfl, ds', rs', kq⟩)
        refine wpAny_mono (wpAny_beside hA) (fun _ s6 z => ?_) fun _ _ ⟨_, _, _, z⟩ => z.elim
        obtain ⟨s60, rfl, P6, σ6, H6, I6, rfl, ds6, rs6, q6⟩ := z
        have hg6 := Ung_sus P6 hg5 hsus
        have I6' := Inv.gens (s' := Ung (s4.setGen g0 gs4).gens s60) I6 rfl rfl (bare_Ung I5.bare I6.bare)
        have hB := (hb M3 H6).run _ (allPoison (Ung (s4.setGen g0 gs4).gens s60)) σ6 H6
          { nx := fun σ' H' => ∃ ds' M', Le M3 H6 M' H' ∧ RelM X.K M' H' ∧ RelS X.K M' H' σ' ds' ∧ ∃ m', m' < n ∧ P m' (i + 1) ds' M'.m
            ct := fun σ' H' => ∃ ds' M', Le M3 H6 M' H' ∧ RelM X.K M' H' ∧ RelS X.K M' H' σ' ds' ∧ ∃ m', m' < n ∧ P m' (i + 1) ds' M'.m
            bk := D.nx, rt := D.rt } (Inv.gens I6' rfl rfl (bare_all I6'.bare))
          ⟨ds6, M3, _, .refl, rm4, rs6, q6, ⟨fun ds' M' σ' H' q l rm rs => ⟨ds', M', l, rm, rs, q⟩, fun d M' v H' q l => hq.rt d M' v H' q (((l1.trans l3).trans l4).trans l), fun ds' M' σ' H' q l => hq.nx ds' M' σ' H' q (((l1.trans l3).trans l4).trans l), fun ds' M' σ' H' q l rm rs => ⟨ds', M', l, rm, rs, q⟩⟩⟩
        refine wpAny_mono (wpAny_beside hB) (fun f s7 z => ?_) fun _ _ ⟨_, _, _, z⟩ => z.elim
        obtain ⟨s70, rfl, P7, q7⟩ := z
        have inv7 : ∀ {σ7 : L2.St} {H7 : Hp}, Inv X.nox (pins ++ bigPins G.n0 (s4.setGen g0 gs4).heap H6) σ7 H7 s70 → Inv X (pins ++ bigPins G.n0 (s4.setGen g0 gs4).heap H6) σ7 H7 (Ung (Ung (s4.setGen g0 gs4).gens s60).gens s70) := fun I7 => Inv.ofNox (Inv.gens I7 rfl rfl (bare_Ung I6'.bare I7.bare))
        have again : ∀ {σ7 : L2.St} {H7 : Hp}, Inv X.nox (pins ++ bigPins G.n0 (s4.setGen g0 gs4).heap H6) σ7 H7 s70 → (∃ ds' M', Le M3 H6 M' H7 ∧ RelM X.K M' H7 ∧ RelS X.K M' H7 σ7 ds' ∧ ∃ m', m' < n ∧ P m' (i + 1) ds' M'.m) → _ := fun {σ7 H7} I7 z => (show ∃ m, m < n ∧ ∃ (i : Nat) (σ3 : L2.St) (ds3 : DS) (M3 : Wd) (H3 : Hp) (gs : GenState) (sP : Shared) (HP : Hp) (SP : Addr → Prop) (N : Nat), Inv X pins σ3 H3 (Ung (Ung (s4.setGen g0 gs4).gens s60).gens s70) ∧ Le M1 H1 M3 H3 ∧ RelM X.K M3 H3 ∧ RelS X.K M3 H3 σ3 ds3 ∧ P m i ds3 M3.m ∧ m < N ∧
            (Ung (Ung (s4.setGen g0 gs4).gens s60).gens s70).gens[g0]? = some gs ∧ (Ung (Ung (s4.setGen g0 gs4).gens s60).gens s70).heap.get? a = some go ∧ Zz G a go out N i gs sP HP SP ∧ Slept2 G sP HP SP (Ung (Ung (s4.setGen g0 gs4).gens s60).gens s70) H3 (hidAll M3) from by
          obtain ⟨ds7, M7, l7, rm7, rs7, m', hm', p7⟩ := z
          have I8 := inv7 I7
          have kept : ∀ b o, G.n0 ≤ b → s4.heap.get? b = some o → H6 b = none → (∀ v, o.data ≠ .cell v) → s70.heap.get? b = some o ∧ H7 b = none := fun b o h1 h2 h3 h4 => by
            obtain ⟨z1, z2, _⟩ := I8.pin (b, o) (List.mem_append_right _ (List.mem_append_right _ (mem_bigPins h2 h1 h3 h4)))
            exact ⟨z1, z2⟩
          refine ⟨m', hm', i + 1, σ7, ds7, M7, H7, gs4, s4, H6, hidAll M3, N, Inv.unpinned I8, (l3.trans l4).trans l7, rm7, rs7, p7, by omega, Ung_sus P7 hg6 hsus, (kept a go (Nat.le_of_lt hna) si.obj si.free.1 hnoc).1, z2, ⟨I8.os.trans (hos1.symm.trans eos.symm), I8.bare, by rw [eP, ew]; exact I8.hok, fun b o e => I8.bs b o (by rw [← eB]; exact e), wok.bsz, ?_, by rw [eB, eo]; exact I8.stack, fun b hb => ⟨I8.stkFree b (by rw [← eo]; exact hb), (wok.frf b hb).2⟩, by rw [eK]; exact hidAll_rm rm7, by rw [eg]; exact (Array.getElem?_eq_some_iff.mp (Ung_sus P7 hg6 hsus)).1⟩, kept, fun b o _ h2 h3 => ?_, fun g x h1 h2 h3 => Ung_sus P7 (Ung_sus P6 (by rw [setGen_get, if_neg (by omega)]; exact h2) h3) h3⟩
          · exact Nat.le_trans (Nat.le_of_lt hna) (Nat.le_of_lt (Heap.lt_size (kept a go (Nat.le_of_lt hna) si.obj si.free.1 hnoc).1))
          · have h2a : M3.m b = none := Classical.byContradiction fun z => h2 (.inl z)
            have h2b : ¬ M3.s b := fun z => h2 (.inr z)
            obtain ⟨k1, k2⟩ := l7.1 b o h2a h3
            exact ⟨rfl, fun z => z.elim (fun z => z k1) (by rw [l7.2]; exact h2b), k2⟩)
        cases f with
        | next => obtain ⟨σ7, H7, I7, z⟩ := q7; exact again I7 z
        | cont => obtain ⟨σ7, H7, I7, z⟩ := q7; exact again I7 z
        | brk => obtain ⟨σ7, H7, I7, z⟩ := q7; exact ⟨σ7, H7, Inv.unpinned (inv7 I7), z⟩
        | ret v => obtain ⟨v', σ7, H7, I7, r7, z⟩ := q7; exact ⟨v', σ7, H7, Inv.unpinned (inv7 I7), r7, z⟩
end
end Lt
namespace Lt
open PySem PySem.Spec PyProof.Rows L2
theorem passes_noX {M : Model} {A : PySem.Around} {env : Env} : PassesOwn M A env (fun _ _ => False) := fun _ _ z => z.elim
theorem nocell_of {ns : List (Str × NameKind)} (h : ∀ y ∈ ns, y.2 ≠ .cell ∧ y.2 ≠ .free) (x : Str) : ns.lookup x ≠ some .cell ∧ ns.lookup x ≠ some .free :=
  ⟨fun e => (h _ (PySem.mem_of_lookup e)).1 rfl, fun e => (h _ (PySem.mem_of_lookup e)).2 rfl⟩
end Lt
/-! list.index -/
namespace Lt
open PySem PySem.Spec PyProof.Rows L2
section
variable {X : Cx} {M0 : Wd} {H0 : Hp} {e o : Expr} {te to : DE} {apos cpos : Pos}
def dIndex (to te : DE) : DE := fun ds M Q => to ds M fun x M1 => match x with
  | .lst xs => te ds M1 fun y M2 => ∃ v ws j z, vS y = some v ∧ vSs xs = some ws ∧ ws[j]? = some z ∧ eqV z v = true ∧ (∀ (m : Nat) (z' : V), m < j → ws[m]? = some z' → eqV z' v = false) ∧ Q (.int (j : Nat)) M2
  | _ => False
theorem d_index (ho : EE X M0 H0 o to) (he : EE X M0 H0 e te) (hs : starEach [e] X.env = (false, eval e X.env) :: starEach [] X.env := by rfl)
    (h1 : attributeBase o "index" X.env (eval o X.env) = eval o X.env := by rfl)
    (h2 : ((backTo cpos (starEach [e] X.env)).all (fun x => !x.1) && (backToKw cpos (keywordEach [] X.env)).all (fun x => x.1.isSome)
      && decide (([e] : List Expr).length + ([] : List Keyword).length + (if ([] : List Keyword).isEmpty then 0 else 1) < 30)) = true := by rfl)
    (h3 : (apos.endLine == cpos.line) = true := by rfl) (h4 : (backTo cpos (starEach ([] : List Expr) X.env)).any (·.1) = false := by rfl) :
    EE X M0 H0 (.Call (.Attribute o "index" apos) [e] [] cpos) (dIndex to te) := by
  refine pe_imp (pe_bm PySem.F.plainAttrs_list PySem.F.slot_list_index PySem.F.type_list_index mt_index ho (pa_cons he pa_nil hs) h1 h2 h3 hs h4) fun σ H Q ⟨ds, M, Q', le, rm, rs, h, hq⟩ => ?_
  refine ⟨ds, M, _, le, rm, rs, h, fun d M1 v H1 q l1 rm1 r1 => ?_⟩
  cases d with
  | lst xs =>
    obtain ⟨a, vs, rfl, ha, r⟩ := Rep.lst_iff.mp r1
    refine ⟨.inl ⟨rfl, vs, ha.sq⟩, ds, M1, _, le.trans l1, rm1, rs.mono l1.w, q, fun y M2 w H2 q l2 rm2 r2 => ?_⟩
    obtain ⟨v, ws, j, z, e1, e2, e3, e4, e5, q⟩ := q
    obtain ⟨rfl, f1⟩ := vS_rep r2 e1
    obtain ⟨rfl, f2⟩ := vSs_rep (r.mono l2.w) e2
    exact ⟨a, _, w, j, z, rfl, rfl, (ha.mono l2.w).sq, f1, f2, e3, e4, e5, hq _ M2 _ _ q (l1.trans l2) rm2 (Rep.int_iff.mpr rfl)⟩
  | _ => exact q.elim
end
end Lt
/-! xs.pop() of a list of ours, xs[::-1], o[i], x = e -/
namespace Lt
open PySem PySem.Spec PyProof.Rows L2
section
variable {X : Cx} {M0 : Wd} {H0 : Hp} {e o i : Expr} {te to ti : DE} {apos cpos pos : Pos}
theorem Reps.dropLast {K : PySem.W.Frag} {M : Wd} {H : Hp} : ∀ {vs : List V} {ds : List D}, Reps K M H vs ds → Reps K M H vs.dropLast ds.dropLast := fun {vs ds} r => by
  rw [List.dropLast_eq_take, List.dropLast_eq_take, r.len]
  exact r.take _
theorem Reps.reverse {K : PySem.W.Frag} {M : Wd} {H : Hp} : ∀ {vs : List V} {ds : List D}, Reps K M H vs ds → Reps K M H vs.reverse ds.reverse
  | [], [], _ => Reps.nil
  | v :: vs, d :: ds, r => by
    unfold Reps at r
    rw [List.reverse_cons, List.reverse_cons]
    exact (Reps.reverse r.2).append (.cons r.1 .nil)
  | [], _ :: _, r => by unfold Reps at r; exact r.elim
  | _ :: _, [], r => by unfold Reps at r; exact r.elim
def dPop (to : DE) : DE := fun ds M Q => to ds M fun o M1 => match o with
  | .ref a => ∃ xs y, M1 a = some (.lst xs) ∧ xs[xs.length - 1]? = some y ∧ Q y (mup M1 a (.lst xs.dropLast))
  | _ => False
theorem d_pop (ho : EE X M0 H0 o to) (hbase : attributeBase o "pop" X.env (eval o X.env) = eval o X.env := by rfl) (hline : (apos.endLine == cpos.line) = true := by rfl) :
    EE X M0 H0 (.Call (.Attribute o "pop" apos) [] [] cpos) (dPop to) := by
  refine pe_imp (pe_bm0 PySem.F.plainAttrs_list PySem.F.slot_list_pop PySem.F.type_list_pop mt_pop ho hbase hline) fun σ H Q ⟨ds, M, Q', le, rm, rs, h, hq⟩ => ?_
  refine ⟨ds, M, _, le, rm, rs, h, fun d M1 v H1 q l rm1 r1 => ?_⟩
  cases d with
  | ref a =>
    rw [Rep.ref_iff] at r1
    subst r1
    obtain ⟨xs, y, ex, ey, q⟩ := q
    obtain ⟨vs, eh, r⟩ := rm1.o _ _ ex
    refine ⟨.inl ⟨rfl, vs, SqL.of eh⟩, ?_⟩
    obtain ⟨w, ew, rw_⟩ := r.get ey
    refine ⟨a, vs, w, rfl, rfl, eh, by rw [r.len]; exact ew, ?_⟩
    have lp := Le.put (o := .lst vs.dropLast) (mo := .lst xs.dropLast) (H := H1) ex
    exact hq _ ⟨mup M1.m a (.lst xs.dropLast), M1.s⟩ _ _ q (l.trans lp) (rm1.put ex ⟨_, upd_same, r.dropLast.mono lp.w⟩) (rw_.mono lp.w)
  | _ => exact q.elim
def dRev (te : DE) : DE := fun ds M Q => te ds M fun x M1 => match x with
  | .lst xs => Q (.lst xs.reverse) M1
  | _ => False
theorem d_rev {k : Nat} {p1 p2 p3 : Pos} (he : EE X M0 H0 e te) : EE X M0 H0 (.Subscript e (.Slice none none (some (.UnaryOp .USub (.Constant (.int 1) k p1) p2)) p3) pos) (dRev te) := by
  refine pe_imp (pe_revL he) fun σ H Q ⟨ds, M, Q', le, rm, rs, h, hq⟩ => ?_
  refine ⟨ds, M, _, le, rm, rs, h, fun d M1 v H1 q l1 rm1 r1 => ?_⟩
  cases d with
  | lst xs =>
    obtain ⟨a, vs, rfl, ha, r⟩ := Rep.lst_iff.mp r1
    exact ⟨a, vs, rfl, ha.sq, fun p hp => hq _ M1 _ _ q (l1.trans (.new hp)) (rm1.new hp) (.lstN rm1 hp r.reverse)⟩
  | _ => exact q.elim
/-- o[i], x = e -/
def sPutN (to ti te : DE) (n : Nat) : DSt := fun D ds M => te ds M fun d M1 => match d with
  | .tup [x, y] => to ds M1 fun o M2 => ti ds M2 fun i M3 => match o, i with
    | .ref a, .int k => ∃ xs j, M3 a = some (.lst xs) ∧ ixN xs.length k = some j ∧ D.nx (ds.set n (some y)) (mup M3 a (.lst (xs.set j x)))
    | _, _ => False
  | _ => False
theorem s_putN {n : Nat} {x : Str} {p1 p2 p3 : Pos} {kt : Nat} (hc : X.calm = true) (he : EE X M0 H0 e te) (ho : EE X M0 H0 o to) (hi : EE X M0 H0 i ti)
    (hN : X.N.Nodup) (hx : X.N[n]? = some x) (hl : Loc X.env.scope x)
    (ha : ∀ v, assign (.Subscript o i p1) X.env v = (do
      let ov ← holding [v] (eval o X.env)
      let iv ← holding [v, ov] (eval i X.env)
      standAt p1
      holding [v, ov, iv] (setItem ov iv v)
      release [v, ov, iv] []) := by intro _; rfl)
    (hn : (assignEach [.Subscript o i p1, .Name x p2] X.env).length = 2 := by rfl) (hst : (assignEach [.Subscript o i p1, .Name x p2] X.env).findIdx? (·.1) = none := by rfl)
    (hs1 : (assignEach [.Subscript o i p1, .Name x p2] X.env).map (·.2) = assign (.Subscript o i p1) X.env :: (assignEach [.Name x p2] X.env).map (·.2) := by rfl)
    (hs2 : (assignEach [.Name x p2] X.env).map (·.2) = assign (.Name x p2) X.env :: (assignEach [] X.env).map (·.2) := by rfl)
    (hs : swapsWithSole [.Tuple [.Subscript o i p1, .Name x p2] kt p3] e pos.line X.env = pure false := by rfl) (hw : swappedStores [.Tuple [.Subscript o i p1, .Name x p2] kt p3] e X.env = pure none := by rfl)
    (h1 : (assignEach [.Tuple [.Subscript o i p1, .Name x p2] kt p3] X.env).map (·.2) = [assign (.Tuple [.Subscript o i p1, .Name x p2] kt p3) X.env] := by rfl)
    (hf : X.fn x = true ∨ X.env.scope.names.lookup x = some .local := by first | exact .inl rfl | exact .inr rfl | assumption) :
    ES X M0 H0 (.Assign [.Tuple [.Subscript o i p1, .Name x p2] kt p3] e pos) (sPutN to ti te n) := by
  refine ps_imp (ps_asg he (pg_tup hc (pgs_cons (pg_sub ho hi set_list ha) (pgs_cons (pg_name hN hx hl hf) pgs_nil hs2) hs1) hn hst) hs hw h1) fun D σ H ⟨ds, M, D', le, rm, rs, h, hq⟩ => ?_
  refine ⟨ds, M, _, le, rm, rs, h, fun d M1 v H1 q l1 rm1 r1 => ?_⟩
  cases d with
  | tup xs =>
    match xs, q with
    | [x, y], q =>
      obtain ⟨b, us, rfl, hb, r⟩ := Rep.tup_iff.mp r1
      match us, r with
      | [vx, vy], r =>
        unfold Reps at r
        have rx := r.1
        have ry := r.2
        unfold Reps at ry
        have ry := ry.1
        refine ⟨b, _, rfl, hb.sq, rfl, vx, _, rfl, ?_⟩
        refine ⟨ds, M1, _, le.trans l1, rm1, rs.mono l1.w, q, fun o M2 vo H2 q l2 rm2 r2 => ?_⟩
        refine ⟨ds, M2, _, le.trans (l1.trans l2), rm2, rs.mono (l1.trans l2).w, q, fun i M3 vi H3 q l3 rm3 r3 => ?_⟩
        cases o with
        | ref a =>
          cases i with
          | int k =>
            obtain ⟨xs, j, hm, hj, q⟩ := q
            rw [Rep.ref_iff] at r2
            rw [Rep.int_iff] at r3
            obtain ⟨vs, ev, ra⟩ := rm3.o _ _ hm
            refine ⟨a, vs, k, j, r2, r3, ev, by rw [ra.len]; exact hj, ?_⟩
            have lp := Le.put (o := .lst (vs.set j vx)) (mo := .lst (xs.set j x)) (H := H3) hm
            have L := (l1.trans l2).trans l3
            exact ⟨vy, [], rfl, rfl, hq.nx _ ⟨mup M3.m a (.lst (xs.set j x)), M3.s⟩ _ _ q (L.trans lp) (rm3.put hm ⟨_, upd_same, (ra.set j (rx.mono (l2.trans l3).w)).mono lp.w⟩) (((rs.mono L.w).mono lp.w).set n (ry.mono ((l2.trans l3).trans lp).w))⟩
          | _ => exact q.elim
        | _ => exact q.elim
      | [], r => unfold Reps at r; exact r.elim
      | [_], r => unfold Reps at r; exact (by have := r.2; unfold Reps at this; exact this.elim)
      | _ :: _ :: _ :: _, r => exact (by have := r.len; simp at this)
  | _ => exact q.elim
/-- k in d, k not in d: a dict of ours, or one that is never changed -/
def dDin (ng : Bool) (te td : DE) : DE := fun ds M Q => te ds M fun y M1 => td ds M1 fun x M2 => match x with
  | .ref a => ∃ ks vs k, M2 a = some (.dct ks vs) ∧ keyD y = some k ∧ Q (.bl (ng != (findD k ks vs).isSome)) M2
  | .dct ks vs => ∃ k, keyD y = some k ∧ Q (.bl (ng != (findD k ks vs).isSome)) M2
  | _ => False
theorem din_ok {σ : L2.St} {H : Hp} {Q : VK} {ng : Bool} {f : Option V → Bool} (hf : ∀ o : Option V, f o = (ng != o.isSome)) (h : lE X.K M0 H0 (dDin ng te to) σ H Q) :
    lE X.K M0 H0 te σ H (fun y H1 => ∃ B : Wd × Hp, lE X.K B.1 B.2 to σ H1 fun x H2 => ∃ a o, x = .ref a ∧ DGet H2 a y o ∧ Q (.bl (f o)) H2) := by
  obtain ⟨ds, M, Q', le, rm, rs, h, hq⟩ := h
  refine ⟨ds, M, _, le, rm, rs, h, fun d M1 v H1 q l1 rm1 r1 => ⟨(M1, H1), ds, M1, _, .refl, rm1, rs.mono l1.w, q, fun x M2 w H2 q l2 rm2 r2 => ?_⟩⟩
  cases x with
  | ref a =>
    rw [Rep.ref_iff] at r2
    obtain ⟨ks, vs, k, em, ek, q⟩ := q
    obtain ⟨xs, eh, el, r⟩ := rm2.o _ _ em
    rw [keyD_rep (r1.mono l2.w) ek]
    refine ⟨a, _, r2, DGet.k eh, ?_⟩
    have fo := findD_ok (k := k) el r
    cases ef : findD k ks vs with
    | none =>
      rw [ef] at fo q
      rw [show valV (ks.zip xs) k = none from fo, hf]
      exact hq _ M2 _ _ q (l1.trans l2) rm2 (Rep.bl_iff.mpr rfl)
    | some dd =>
      rw [ef] at fo q
      obtain ⟨vv, e3, rv⟩ := fo
      rw [e3, hf]
      exact hq _ M2 _ _ q (l1.trans l2) rm2 (Rep.bl_iff.mpr rfl)
  | dct ks vs =>
    obtain ⟨a, xs, e1, ha, el, r⟩ := Rep.dct_iff.mp r2
    obtain ⟨k, ek, q⟩ := q
    rw [keyD_rep (r1.mono l2.w) ek]
    refine ⟨a, _, e1, DGet.k ha.2.2, ?_⟩
    have fo := findD_ok (k := k) el r
    cases ef : findD k ks vs with
    | none =>
      rw [ef] at fo q
      rw [show valV (ks.zip xs) k = none from fo, hf]
      exact hq _ M2 _ _ q (l1.trans l2) rm2 (Rep.bl_iff.mpr rfl)
    | some dd =>
      rw [ef] at fo q
      obtain ⟨vv, e3, rv⟩ := fo
      rw [e3, hf]
      exact hq _ M2 _ _ q (l1.trans l2) rm2 (Rep.bl_iff.mpr rfl)
  | _ => exact q.elim
theorem pc_dinD (hu : X.A.units + 1 < cLine) (he : EE X M0 H0 e te) (ho : ∀ (M0 : Wd) (H0 : Hp), EE X M0 H0 o to) : PC X .In e o (lE X.K M0 H0 (dDin false te to)) :=
  ⟨fun pins s σ H Q I h => (pc_din hu he (pe_ex (t := fun B : Wd × Hp => lE X.K B.1 B.2 to) fun B => ho B.1 B.2)).run pins s σ H Q I (din_ok (fun o => by cases o <;> rfl) h)⟩
theorem pc_dnotinD (hu : X.A.units + 1 < cLine) (he : EE X M0 H0 e te) (ho : ∀ (M0 : Wd) (H0 : Hp), EE X M0 H0 o to) : PC X .NotIn e o (lE X.K M0 H0 (dDin true te to)) :=
  ⟨fun pins s σ H Q I h => (pc_dnotin hu he (pe_ex (t := fun B : Wd × Hp => lE X.K B.1 B.2 to) fun B => ho B.1 B.2)).run pins s σ H Q I (din_ok (fun o => by cases o <;> rfl) h)⟩
theorem dB_ok {t : DE} {σ : L2.St} {H : Hp} {Q : Bool → Hp → Prop} (h : lT X.K M0 H0 (dB t) σ H Q) : lE X.K M0 H0 t σ H fun v H' => ∃ b, v = .bl b ∧ Q b H' := by
  obtain ⟨ds, M, Q', le, rm, rs, h, hq⟩ := h
  refine ⟨ds, M, _, le, rm, rs, h, fun d M' v H' q l rm' r' => ?_⟩
  cases d with
  | bl b => rw [Rep.bl_iff] at r'; exact ⟨b, r', hq _ M' _ q l rm'⟩
  | _ => exact q.elim
theorem d_din (hu : X.A.units + 1 < cLine) (he : EE X M0 H0 e te) (ho : ∀ (M0 : Wd) (H0 : Hp), EE X M0 H0 o to) (h1 : behindInMarks .In o = false := by rfl) : EE X M0 H0 (.Compare e [.In] [o] pos) (dDin false te to) := pe_cmp (pc_dinD hu he ho) h1
theorem d_dnotin (hu : X.A.units + 1 < cLine) (he : EE X M0 H0 e te) (ho : ∀ (M0 : Wd) (H0 : Hp), EE X M0 H0 o to) (h1 : behindInMarks .NotIn o = false := by rfl) : EE X M0 H0 (.Compare e [.NotIn] [o] pos) (dDin true te to) := pe_cmp (pc_dnotinD hu he ho) h1
theorem dt_din (hu : X.A.units + 1 < cLine) (he : EE X M0 H0 e te) (ho : ∀ (M0 : Wd) (H0 : Hp), EE X M0 H0 o to) (h1 : behindInMarks .In o = false := by rfl) : ET X M0 H0 (.Compare e [.In] [o] pos) (dB (dDin false te to)) := pt_imp (pt_cmp (pc_dinD hu he ho) h1) fun σ H Q h => dB_ok h
theorem dt_dnotin (hu : X.A.units + 1 < cLine) (he : EE X M0 H0 e te) (ho : ∀ (M0 : Wd) (H0 : Hp), EE X M0 H0 o to) (h1 : behindInMarks .NotIn o = false := by rfl) : ET X M0 H0 (.Compare e [.NotIn] [o] pos) (dB (dDin true te to)) := pt_imp (pt_cmp (pc_dnotinD hu he ho) h1) fun σ H Q h => dB_ok h
/-- {} that is never changed -/
def dDctZ : DE := fun _ M Q => Q (.dct [] []) M
theorem d_dctZ : EE X M0 H0 (.Dict [] [] pos) dDctZ := by
  refine pe_imp pe_dnewK fun σ H Q ⟨ds, M, Q', le, rm, rs, h, hq⟩ p hp => ?_
  exact hq _ M _ _ h (.new hp) (rm.new hp) (Rep.dct_iff.mpr ⟨p, [], rfl, ⟨rm.free hp, rm.vis hp, upd_same⟩, rfl, Reps.nil⟩)
/-- {k: v} -/
def dDct1 (tk te : DE) : DE := fun ds M Q => tk ds M fun y M1 => te ds M1 fun z M2 => ∃ k, keyD y = some k ∧ Q (.dct [k] [z]) M2
theorem d_dct1 {k v : Expr} {tk : DE} (hk : ∀ (M0 : Wd) (H0 : Hp), EE X M0 H0 k tk) (hv : ∀ (M0 : Wd) (H0 : Hp), EE X M0 H0 v te) : EE X M0 H0 (.Dict [some k] [v] pos) (dDct1 tk te) := by
  refine pe_imp (pe_disp (pps_cons (pe_ex (t := fun B : Wd × Hp => lE X.K B.1 B.2 tk) fun B => hk B.1 B.2) (pe_ex (t := fun B : Wd × Hp => lE X.K B.1 B.2 te) fun B => hv B.1 B.2) pps_nil) rfl rfl (fun z => nomatch z) (by show 1 ≤ 15; decide)) fun σ H Q ⟨ds, M, Q', le, rm, rs, h, hq⟩ p hp => ?_
  have lw0 : Lw M H ⟨M.m, hid M.s p⟩ (upd H p (.dK [])) := fun a o h1 h2 h3 => ⟨h1, fun z => z.elim h2 (ne_of_none h3 hp), by rw [upd_ne (ne_of_none h3 hp)]; exact h3⟩
  have rm0 : RelM X.K ⟨M.m, hid M.s p⟩ (upd H p (.dK [])) := by
    refine ⟨fun a o e => ?_, fun a z => ?_⟩
    · have ne : a ≠ p := fun z => by rw [z] at e; have := rm.free hp; rw [this] at e; cases e
      exact (rm.o a o e).mono lw0 (upd_ne ne)
    · rcases z with z | rfl
      · obtain ⟨h1, o, e⟩ := rm.h a z
        exact ⟨h1, o, by rw [upd_ne (ne_of_none e hp)]; exact e⟩
      · exact ⟨rm.free hp, _, upd_same⟩
  refine ⟨(⟨M.m, hid M.s p⟩, _), ds, ⟨M.m, hid M.s p⟩, _, .refl, rm0, rs.mono lw0, h, fun y M1 vy H1 q l1 rm1 r1 => ?_⟩
  refine ⟨(M1, H1), ds, M1, _, .refl, rm1, (rs.mono lw0).mono l1.w, q, fun z M2 vz H2 q l2 rm2 r2 => ?_⟩
  obtain ⟨k, ek, q⟩ := q
  have l := l1.trans l2
  have es : M2 = ⟨M2.m, hid M.s p⟩ := by have := l.2; cases M2; simp at this ⊢; exact this
  have ey := keyD_rep r1 ek
  rw [es] at l rm2 r2
  have hpm := (rm2.h p (.inr rfl)).1
  have e3 := (l.1 p _ (rm.free hp) upd_same).2
  refine ⟨e3, [(k, vz)], by rw [ey]; rfl, by show 1 ≤ 15; decide, ?_⟩
  have lwF : Lw ⟨M2.m, hid M.s p⟩ H2 ⟨M2.m, M.s⟩ (upd H2 p (.dK ([k].zip [vz]))) := fun a o h1 h2 h3 => ⟨h1, fun z => h2 (.inl z), by rw [upd_ne fun z => h2 (.inr z)]; exact h3⟩
  refine hq _ ⟨M2.m, M.s⟩ _ _ q ⟨fun a o h1 h2 => ?_, rfl⟩ ⟨fun a o ea => ?_, fun a z => ?_⟩ (Rep.dct_iff.mpr ⟨p, [vz], rfl, ⟨hpm, rm.vis hp, upd_same⟩, rfl, (Reps.cons r2 Reps.nil).mono lwF⟩)
  · have ne := ne_of_none h2 hp
    obtain ⟨e1, e2⟩ := l.1 a o h1 (by rw [upd_ne ne]; exact h2)
    exact ⟨e1, by rw [upd_ne ne]; exact e2⟩
  · have ne : a ≠ p := fun z => by rw [z] at ea; have ea : M2.m p = some o := ea; rw [hpm] at ea; cases ea
    exact (rm2.o a o ea).mono lwF (upd_ne ne)
  · obtain ⟨h1, o, e2⟩ := rm2.h a (.inl z)
    by_cases ne : a = p
    · subst ne; exact ⟨h1, _, upd_same⟩
    · exact ⟨h1, o, by rw [upd_ne ne]; exact e2⟩
/-- list(x), a list that may change -/
def cListM : List D → Mp → DK → Prop := fun xs M Q => match xs with
  | [.lst ds] => ∀ p, M p = none → Q (.ref p) (mup M p (.lst ds))
  | [.tup ds] => ∀ p, M p = none → Q (.ref p) (mup M p (.lst ds))
  | [.ref a] => ∃ ds, M a = some (.lst ds) ∧ ∀ p, M p = none → Q (.ref p) (mup M p (.lst ds))
  | _ => False
theorem c_listM : CallD X (.type "list") cListM := by
  refine ⟨_, call_list_of, fun xs M H Q' Q vs rm rr q hq => ?_⟩
  have fin : ∀ (ys : List V) (ds : List D) l, H l = none → Reps X.K M H ys ds → (∀ p, M.m p = none → Q' (.ref p) (mup M.m p (.lst ds))) → Q (.ref l) (upd H l (.lst ys)) := fun ys ds l hl r q => by
    have ln := Le.newM (o := .lst ys) (mo := .lst ds) rm hl
    exact hq _ ⟨mup M.m l (.lst ds), M.s⟩ _ _ (q l (rm.free hl)) ln (rm.newM hl ⟨ys, upd_same, r.mono ln.w⟩) (Rep.ref_iff.mpr rfl)
  unfold cListM at q
  split at q
  · obtain ⟨v, rfl, r⟩ := rep1 rr
    obtain ⟨p, ys, rfl, hp, r⟩ := Rep.lst_iff.mp r
    exact ⟨p, ys, rfl, .inl hp.sq, fun l hl => fin _ _ l hl r q⟩
  · obtain ⟨v, rfl, r⟩ := rep1 rr
    obtain ⟨p, ys, rfl, hp, r⟩ := Rep.tup_iff.mp r
    exact ⟨p, ys, rfl, .inr hp.sq, fun l hl => fin _ _ l hl r q⟩
  · obtain ⟨v, rfl, r⟩ := rep1 rr
    obtain ⟨ds, em, q⟩ := q
    rw [Rep.ref_iff] at r
    subst r
    obtain ⟨ys, e, r⟩ := rm.o _ _ em
    exact ⟨_, ys, rfl, .inl (SqL.of e), fun l hl => fin _ _ l hl r q⟩
  · exact q.elim
end
end Lt
/-! dicts whose keys are tuples, nested -/
namespace Lt
open PySem PySem.Spec PyProof.Rows L2
section
variable {K : PySem.W.Frag} {M W : Wd} {H : Hp} {P : Program} {w : World} {h : Heap}
mutual
theorem nk_is (kin : K.In h) (ok : HOk P w H h) : ∀ {v : V} {d : D} {k : NestedKey} {u : Value}, Rep K M H v d → nk d = some k → RelV v u → NestedIs h k u
  | v, .non, k, u, r, e, rv => by
    rw [Rep.non_iff] at r; subst r; unfold nk at e; cases e
    obtain rfl : u = Value.none := rv
    exact .none
  | v, .bl b, k, u, r, e, rv => by
    rw [Rep.bl_iff] at r; subst r; unfold nk at e; cases e
    obtain rfl : u = Value.bool b := rv
    exact .bool rfl
  | v, .int i, k, u, r, e, rv => by
    rw [Rep.int_iff] at r; subst r; unfold nk at e; cases e
    obtain ⟨t, rfl⟩ := rv
    exact .int _ _
  | v, .str x, k, u, r, e, rv => by
    rw [Rep.str_iff] at r; subst r; unfold nk at e; cases e
    obtain ⟨t, rfl⟩ := rv
    exact .text _ _
  | v, .tup ds, k, u, r, e, rv => by
    obtain ⟨a, xs, rfl, ha, r⟩ := Rep.tup_iff.mp r
    obtain rfl : u = Value.ref a := rv
    unfold nk at e
    cases q : nks ds with
    | none => rw [q] at e; cases e
    | some ks =>
      rw [q] at e; cases e
      rcases ha with ⟨_, _, hh⟩ | ⟨o, its, n, hk, hc, hd, _, hv⟩
      · obtain ⟨_, its, hv, o, ho, hc, n, hd⟩ := ok a _ hh
        exact .tup ho hc hd (nks_is kin ok r q (by simpa using hv))
      · exact .tup (kin _ _ hk) hc hd (nks_is kin ok r q hv)
  | v, .lst _, k, u, r, e, rv => by unfold nk at e; cases e
  | v, .dct _ _, k, u, r, e, rv => by unfold nk at e; cases e
  | v, .dcl _ _, k, u, r, e, rv => by unfold nk at e; cases e
  | v, .dn _ _ _, k, u, r, e, rv => by unfold nk at e; cases e
  | v, .scr _, k, u, r, e, rv => by unfold nk at e; cases e
  | v, .ref _, k, u, r, e, rv => by unfold nk at e; cases e
  | v, .ty _, k, u, r, e, rv => by unfold nk at e; cases e
theorem nks_is (kin : K.In h) (ok : HOk P w H h) : ∀ {vs : List V} {ds : List D} {ks : List NestedKey} {us : List Value}, Reps K M H vs ds → nks ds = some ks → Vals vs us → NestedAll h ks us
  | [], [], ks, us, _, e, rv => by unfold nks at e; cases e; cases rv; exact .nil
  | [], _ :: _, _, _, r, _, _ => by unfold Reps at r; exact r.elim
  | _ :: _, [], _, _, r, _, _ => by unfold Reps at r; exact r.elim
  | v :: vs, d :: ds, ks, us, r, e, rv => by
    unfold Reps at r
    unfold nks at e
    cases q1 : nk d with
    | none => rw [q1] at e; cases e
    | some k =>
      cases q2 : nks ds with
      | none => rw [q1, q2] at e; cases e
      | some l =>
        rw [q1, q2] at e; cases e
        cases rv with
        | cons rv1 rv2 => exact .cons (nk_is kin ok r.1 q1 rv1) (nks_is kin ok r.2 q2 rv2)
end
end
/-- what stands for a key; replaced; put -/
def findN (k : NestedKey) : List D → List D → Option D
  | a :: ks, v :: vs => if nk a = some k then some v else findN k ks vs
  | _, _ => none
def setN (k : NestedKey) (z : D) : List D → List D → List D
  | a :: ks, v :: vs => (if nk a = some k then z else v) :: setN k z ks vs
  | _, vs => vs
def findE (k : NestedKey) : List Ent → Option V
  | [] => none
  | e :: r => if e.1 = k then some e.2.2 else findE k r
def setE (k : NestedKey) (z : V) : List Ent → List Ent
  | [] => []
  | e :: r => (if e.1 = k then (e.1, e.2.1, z) else e) :: setE k z r
/-- .. by what the keys stand for -/
theorem setE_key (k : NestedKey) (z : V) : ∀ es : List Ent, (setE k z es).map (·.1) = es.map (·.1)
  | [] => rfl
  | e :: r => by rw [setE, List.map_cons, List.map_cons, setE_key k z r]; split <;> rfl
theorem setE_at (k : NestedKey) (z : V) : ∀ es : List Ent, (setE k z es).map (·.2.1) = es.map (·.2.1)
  | [] => rfl
  | e :: r => by rw [setE, List.map_cons, List.map_cons, setE_at k z r]; split <;> rfl
theorem setE_len (k : NestedKey) (z : V) : ∀ es : List Ent, (setE k z es).length = es.length
  | [] => rfl
  | e :: r => by rw [setE, List.length_cons, List.length_cons, setE_len k z r]
section
variable {K : PySem.W.Frag} {M W : Wd} {H : Hp}
theorem find_rel {k : NestedKey} : ∀ {es : List Ent} {ks vs : List D}, ks.map nk = es.map (fun e => some e.1) → Reps K M H (es.map (·.2.2)) vs → match findN k ks vs with
    | none => findE k es = none
    | some d => ∃ v, findE k es = some v ∧ Rep K M H v d
  | [], [], vs, _, r => by cases vs with
    | nil => rfl
    | cons v vs => unfold Reps at r; exact r.elim
  | [], _ :: _, _, e, _ => by simp at e
  | _ :: _, [], _, e, _ => by simp at e
  | e :: es, a :: ks, [], _, r => by unfold Reps at r; exact r.elim
  | e :: es, a :: ks, v :: vs, eq, r => by
    unfold Reps at r
    rw [List.map_cons, List.map_cons] at eq
    injection eq with e1 e2
    rw [findN, findE]
    by_cases z : e.1 = k
    · rw [if_pos (by rw [e1, z]), if_pos z]
      exact ⟨_, rfl, r.1⟩
    · rw [if_neg (by rw [e1]; intro q; injection q with q; exact z q), if_neg z]
      exact find_rel e2 r.2
theorem set_rel {k : NestedKey} {z : V} {d : D} (rz : Rep K M H z d) : ∀ {es : List Ent} {ks vs : List D}, ks.map nk = es.map (fun e => some e.1) → Reps K M H (es.map (·.2.2)) vs → Reps K M H ((setE k z es).map (·.2.2)) (setN k d ks vs)
  | [], [], vs, _, r => by cases vs with
    | nil => exact .nil
    | cons v vs => unfold Reps at r; exact r.elim
  | [], _ :: _, _, e, _ => by simp at e
  | _ :: _, [], _, e, _ => by simp at e
  | e :: es, a :: ks, [], _, r => by unfold Reps at r; exact r.elim
  | e :: es, a :: ks, v :: vs, eq, r => by
    unfold Reps at r
    rw [List.map_cons, List.map_cons] at eq
    injection eq with e1 e2
    rw [setN, setE, List.map_cons]
    refine .cons ?_ (set_rel rz e2 r.2)
    by_cases q : e.1 = k
    · rw [if_pos q, if_pos (show nk a = some k by rw [e1, q])]; exact rz
    · rw [if_neg q, if_neg (show ¬ nk a = some k by rw [e1]; intro z; injection z with z; exact q z)]; exact r.1
end
theorem at_rel {k : NestedKey} : ∀ {es : List Ent} {xs : List (NestedKey × Addr × Value)}, Paired (fun (e : Ent) (x : NestedKey × Addr × Value) => x.1 = e.1 ∧ x.2.1 = e.2.1 ∧ RelV e.2.2 x.2.2) es xs → RelO (findE k es) ((atKey xs k).map (·.2))
  | _, _, .nil => True.intro
  | e :: es, x :: xs, .cons ⟨h1, h2, h3⟩ t => by
    have ih := at_rel (k := k) t
    rw [findE]
    unfold atKey at ih ⊢
    rw [List.find?_cons]
    by_cases z : e.1 = k
    · rw [if_pos z, decide_eq_true (h1.trans z)]
      exact h3
    · rw [if_neg z, decide_eq_false (by rw [h1]; exact z)]
      exact ih
theorem put_rel {k : NestedKey} {v : V} {u : Value} {a : Addr} (rv : RelV v u) {es : List Ent} {xs : List (NestedKey × Addr × Value)} (p : Paired (fun (e : Ent) (x : NestedKey × Addr × Value) => x.1 = e.1 ∧ x.2.1 = e.2.1 ∧ RelV e.2.2 x.2.2) es xs) :
    Paired (fun (e : Ent) (x : NestedKey × Addr × Value) => x.1 = e.1 ∧ x.2.1 = e.2.1 ∧ RelV e.2.2 x.2.2) (if (findE k es).isSome = true then setE k v es else es ++ [(k, a, v)]) (storedH xs k a u) := by
  have q := (at_rel (k := k) p).isSome_eq
  rw [Option.isSome_map] at q
  unfold storedH
  rw [q]
  split
  · have : ∀ {es : List Ent} {xs : List (NestedKey × Addr × Value)}, Paired (fun (e : Ent) (x : NestedKey × Addr × Value) => x.1 = e.1 ∧ x.2.1 = e.2.1 ∧ RelV e.2.2 x.2.2) es xs → Paired (fun (e : Ent) (x : NestedKey × Addr × Value) => x.1 = e.1 ∧ x.2.1 = e.2.1 ∧ RelV e.2.2 x.2.2) (setE k v es) (xs.map (putAt k u)) := by
      intro es xs p
      induction p with
      | nil => exact .nil
      | @cons e x es xs h t ih =>
        obtain ⟨h1, h2, h3⟩ := h
        rw [setE, List.map_cons]
        refine .cons ?_ ih
        unfold putAt
        by_cases z : e.1 = k
        · rw [if_pos z, if_pos (h1.trans z)]; exact ⟨h1, h2, rv⟩
        · rw [if_neg z, if_neg (by rw [h1]; exact z)]; exact ⟨h1, h2, h3⟩
    exact this p
  · have : ∀ {es : List Ent} {xs : List (NestedKey × Addr × Value)}, Paired (fun (e : Ent) (x : NestedKey × Addr × Value) => x.1 = e.1 ∧ x.2.1 = e.2.1 ∧ RelV e.2.2 x.2.2) es xs → Paired (fun (e : Ent) (x : NestedKey × Addr × Value) => x.1 = e.1 ∧ x.2.1 = e.2.1 ∧ RelV e.2.2 x.2.2) (es ++ [(k, a, v)]) (xs ++ [(k, a, u)]) := by
      intro es xs p
      induction p with
      | nil => exact .cons ⟨rfl, rfl, rv⟩ .nil
      | cons h t ih => exact .cons h ih
    exact this p
/-- the rows of a put -/
def putE (es : List Ent) (k : NestedKey) (a : Addr) (v : V) : List Ent := if (findE k es).isSome = true then setE k v es else es ++ [(k, a, v)]
theorem putE_len (es : List Ent) (k : NestedKey) (a : Addr) (v : V) : (putE es k a v).length ≤ es.length + 1 := by
  unfold putE
  split
  · rw [setE_len]; omega
  · simp
section
variable {X : Cx} {M0 : Wd} {H0 : Hp} {e f o : Expr} {te tx to : DE} {pos apos cpos : Pos}
variable {K : PySem.W.Frag} {M W : Wd} {H : Hp} {pins : List (Addr × Obj)} {σ : L2.St} {s : Shared} {a : Addr} {es : List Ent} {ks vs : List D} {k : NestedKey} {d y : D} {v : V} {u : Value} {A : PySem.Around} {E : Value → Shared → Prop}
/-- the dict in the heap -/
theorem nd_rd {w : World} (hw : w = X.w) (I : Inv X pins σ H s) (e : Rd H a (.ext (NdAt w a es))) (ek : ks.map nk = es.map (fun e => some e.1)) (rk : Reps X.K M H (es.map fun e => V.ref e.2.1) ks) :
    es.length ≤ sizeLine ∧ (a == sysModules) = false ∧ ∃ xs, Paired (fun (e : Ent) (x : NestedKey × Addr × Value) => x.1 = e.1 ∧ x.2.1 = e.2.1 ∧ RelV e.2.2 x.2.2) es xs ∧ s.heap.DictOfH (nestedKind X.prog X.w) a xs := by
  subst hw
  obtain ⟨⟨h1, h2, h3, h4, ob, ts, ep, xs, g1, g2, g3, g4, g5⟩, _, _⟩ := e.ok I.hok
  have all : ∀ {es : List Ent} {ks : List D} {xs : List (NestedKey × Addr × Value)}, (∀ e ∈ es, e.1.depth ≤ 8) → ks.map nk = es.map (fun e => some e.1) → Reps X.K M H (es.map fun e => V.ref e.2.1) ks → Paired (fun (e : Ent) (x : NestedKey × Addr × Value) => x.1 = e.1 ∧ x.2.1 = e.2.1 ∧ RelV e.2.2 x.2.2) es xs →
      (∀ x ∈ xs, (nestedKind X.prog X.w).is s.heap x.1 x.2.1) ∧ xs.map (·.1) = es.map (·.1) := by
    intro es ks xs hd ek rk p
    induction p generalizing ks with
    | nil => exact ⟨(fun x hx => by cases hx), rfl⟩
    | @cons e x es xs hh t ih =>
      cases ks with
      | nil => simp at ek
      | cons y ks =>
        rw [List.map_cons, List.map_cons] at ek
        injection ek with ek1 ek2
        rw [List.map_cons] at rk
        unfold Reps at rk
        obtain ⟨i1, i2⟩ := ih (fun e he => hd e (List.mem_cons_of_mem _ he)) ek2 rk.2
        refine ⟨fun z hz => ?_, by rw [List.map_cons, List.map_cons, i2, hh.1]⟩
        rcases List.mem_cons.mp hz with rfl | hz
        · rw [hh.1, hh.2.1]
          exact ⟨nk_is I.kIn I.hok rk.1 ek1 rfl, hd e List.mem_cons_self⟩
        · exact i1 z hz
  obtain ⟨i1, i2⟩ := all h4 ek rk g5
  exact ⟨h1, h2, xs, g5, ob, ts, ep, g1, g2, g3, g4, i1, by rw [i2]; exact h3⟩
theorem nd_new {w : World} {H' : Hp} {h' : Heap} {P : Program} {xs : List (NestedKey × Addr × Value)} (hl : es.length ≤ sizeLine) (hs : (a == sysModules) = false) (hd : ∀ e ∈ es, e.1.depth ≤ 8) (p : Paired (fun (e : Ent) (x : NestedKey × Addr × Value) => x.1 = e.1 ∧ x.2.1 = e.2.1 ∧ RelV e.2.2 x.2.2) es xs)
    (dd : h'.DictOfH (nestedKind P w) a xs) : ObjOk P w H' h' a (.ext (NdAt w a es)) := by
  obtain ⟨o, ts, ep, g1, g2, g3, g4, g5, g6⟩ := dd
  have e : xs.map (·.1) = es.map (·.1) := by
    clear g4 g5 g6 hd hl
    induction p with
    | nil => rfl
    | cons h t ih => rw [List.map_cons, List.map_cons, ih, h.1]
  refine ⟨⟨hl, hs, by rw [← e]; exact g6, hd, o, ts, ep, xs, g1, g2, g3, g4, p⟩, ⟨o, g1⟩, fun h1 h2 q k => ?_⟩
  obtain ⟨q1, q2, q3, q4, o, ts, ep, xs, k1, k2⟩ := q
  exact ⟨q1, q2, q3, q4, o, ts, ep, xs, k o k1, k2⟩
end
end Lt
/-! dicts whose keys are tuples: expressions -/
namespace Lt
open PySem PySem.Spec PyProof.Rows L2
/-- x is such a dict -/
def NdD (w : World) (x : D) (m : Mp) (ks vs : List D) : Prop := (∃ a, x = .ref a ∧ m a = some (.dn w ks vs)) ∨ x = .dn w ks vs
/-- y is such a key -/
def NKey (y : D) (k : NestedKey) : Prop := (∃ ds, y = .tup ds) ∧ nk y = some k ∧ k.depth ≤ 8
section
variable {X : Cx} {M0 : Wd} {H0 : Hp} {e f o : Expr} {te tx to : DE} {pos apos cpos : Pos} {w : World}
variable {K : PySem.W.Frag} {M W : Wd} {H : Hp} {pins : List (Addr × Obj)} {σ : L2.St} {s : Shared} {a : Addr} {es : List Ent} {ks vs : List D} {k : NestedKey} {d x y : D} {v z : V} {u r : Value} {A : PySem.Around} {E : Value → Shared → Prop}
structure NdV (K : PySem.W.Frag) (M : Wd) (H : Hp) (w : World) (v : V) (a : Addr) (es : List Ent) (ks vs : List D) : Prop where
  e : v = .ref a
  rd : Rd H a (.ext (NdAt w a es))
  ek : ks.map nk = es.map (fun e => some e.1)
  rk : Reps K M H (es.map fun e => V.ref e.2.1) ks
  rv : Reps K M H (es.map (·.2.2)) vs
theorem NdD.get (rm : RelM K M H) (r : Rep K M H v x) (h : NdD w x M.m ks vs) : ∃ a es, NdV K M H w v a es ks vs := by
  rcases h with ⟨a, rfl, h⟩ | rfl
  · rw [Rep.ref_iff] at r
    obtain ⟨es, h1, h2, h3, h4⟩ := rm.o _ _ h
    exact ⟨a, es, r, .inl h1, h2, h3, h4⟩
  · obtain ⟨a, es, h0, ⟨_, _, ob, h1⟩, h2, h3, h4⟩ := Rep.dn_iff.mp r
    exact ⟨a, es, h0, .inr ⟨ob, h1⟩, h2, h3, h4⟩
theorem NdV.dict (n : NdV X.K M H X.w v a es ks vs) (I : Inv X pins σ H s) : es.length ≤ sizeLine ∧ (a == sysModules) = false ∧ ∃ xs, Paired (fun (e : Ent) (x : NestedKey × Addr × Value) => x.1 = e.1 ∧ x.2.1 = e.2.1 ∧ RelV e.2.2 x.2.2) es xs ∧ s.heap.DictOfH (nestedKind X.prog X.w) a xs :=
  nd_rd rfl I n.rd n.ek n.rk
theorem NKey.is (h : NKey y k) (I : Inv X pins σ H s) (r : Rep X.K M H v y) (rv : RelV v u) : ∃ b, u = .ref b ∧ v = .ref b ∧ (nestedKind X.prog X.w).is s.heap k b := by
  obtain ⟨⟨ds, rfl⟩, h1, h2⟩ := h
  obtain ⟨b, xs, rfl, hb, _⟩ := Rep.tup_iff.mp r
  obtain rfl : u = Value.ref b := rv
  exact ⟨b, rfl, rfl, nk_is I.kIn I.hok r h1 rfl, h2⟩
theorem nd_typeIs (n : NdV X.K M H X.w v a es ks vs) (I : Inv X pins σ H s) : s.TypeIs (.ref a) "dict" ∧ (∀ b, Value.ref a = .ref b → ∃ ob, s.heap.get? b = some ob ∧ ob.dict = none) := by
  obtain ⟨_, _, xs, _, dd⟩ := n.dict I
  refine ⟨dd.typeIs, fun b q => ?_⟩
  cases q
  obtain ⟨ob, _, _, h1, h2, _⟩ := dd
  exact ⟨ob, h1, h2.2.1⟩
theorem nroom (hu : A.units + 64 < cLine) : (nestedKind X.prog X.w).room A.in1 := by show A.units + 1 + 8 < cLine; omega
/-- what a look-up gives -/
theorem NdV.look (n : NdV K M H w v a es ks vs) (k : NestedKey) {xs : List (NestedKey × Addr × Value)} (p : Paired (fun (e : Ent) (x : NestedKey × Addr × Value) => x.1 = e.1 ∧ x.2.1 = e.2.1 ∧ RelV e.2.2 x.2.2) es xs) :
    (findN k ks vs = none ∧ findE k es = none ∧ atKey xs k = none) ∨ ∃ d v q, findN k ks vs = some d ∧ findE k es = some v ∧ Rep K M H v d ∧ atKey xs k = some q ∧ RelV v q.2 := by
  have h := find_rel (k := k) n.ek n.rv
  have g := at_rel (k := k) p
  cases e : findN k ks vs with
  | none =>
    rw [e] at h
    refine .inl ⟨rfl, h, ?_⟩
    rw [show findE k es = none from h] at g
    cases q : atKey xs k with
    | none => rfl
    | some q' => rw [q] at g; exact g.elim
  | some d =>
    rw [e] at h
    obtain ⟨v, h1, h2⟩ := h
    rw [h1] at g
    cases q : atKey xs k with
    | none => rw [q] at g; exact g.elim
    | some q' => rw [q] at g; exact .inr ⟨d, v, q', rfl, h1, h2, rfl, g⟩
theorem Rep.toM {M1 : Wd} {H1 : Hp} (l : Le M H M1 H1) (r : Rep K M H v d) : Rep K M1 H1 v d := r.mono l.w

/-! ### d.get(k), d.get(k, x) -/
def dNget1 (w : World) (td te : DE) : DE := fun ds M Q => td ds M fun x M1 => (∃ ks vs, NdD w x M1 ks vs) ∧ te ds M1 fun y M2 => ∃ ks vs k, NdD w x M2 ks vs ∧ NKey y k ∧ Q ((findN k ks vs).getD .non) M2
def dNget2 (w : World) (td te tx : DE) : DE := fun ds M Q => td ds M fun x M1 => (∃ ks vs, NdD w x M1 ks vs) ∧ te ds M1 fun y M2 => tx ds M2 fun z M3 => ∃ ks vs k, NdD w x M3 ks vs ∧ NKey y k ∧ Q ((findN k ks vs).getD z) M3
theorem d_nget1 (hu : X.A.units + 64 < cLine) (ho : EE X M0 H0 o to) (he : EE X M0 H0 e te)
    (h1 : attributeBase o "get" X.env (eval o X.env) = eval o X.env := by rfl)
    (h2 : ((backTo cpos (starEach [e] X.env)).all (fun x => !x.1) && (backToKw cpos (keywordEach [] X.env)).all (fun x => x.1.isSome)
    && decide (([e] : List Expr).length + ([] : List Keyword).length + (if ([] : List Keyword).isEmpty then 0 else 1) < 30)) = true := by rfl)
    (h3 : (apos.endLine == cpos.line) = true := by rfl) (h4 : backTo cpos (starEach [e] X.env) = [(false, eval e X.env)] := by rfl) :
    EE X M0 H0 (.Call (.Attribute o "get" apos) [e] [] cpos) (dNget1 X.w to te) := by
  refine ⟨fun pins s σ H Q I ⟨ds, M, Q', le, rm, rs, h, hq⟩ => ?_⟩
  refine wpAny_Call_method h1 h2 h3 PySem.F.plainAttrs_dict PySem.F.slot_dict_get PySem.F.type_dict_get (thn (ho.run pins s σ H
    (fun v H1 => ∃ x M1, Le M H M1 H1 ∧ RelM X.K M1 H1 ∧ Rep X.K M1 H1 v x ∧ (∃ ks vs, NdD X.w x M1.m ks vs) ∧ te ds M1.m fun y M2 => ∃ ks vs k, NdD X.w x M2 ks vs ∧ NKey y k ∧ Q' ((findN k ks vs).getD .non) M2) I
    ⟨ds, M, _, le, rm, rs, h, fun d M1 v H1 q l rm1 r1 => ⟨d, M1, l, rm1, r1, q.1, q.2⟩⟩) fun u s1 ⟨v, H1, I1, rv, x, M1, l1, rm1, r1, ⟨ks0, vs0, n0⟩, q1⟩ => ?_)
  obtain ⟨a, es, n⟩ := n0.get rm1 r1
  cases n.e
  obtain rfl : u = Value.ref a := rv
  obtain ⟨t1, t2⟩ := nd_typeIs n I1
  refine ⟨t1, t2, ?_⟩
  rw [h4]
  refine Calls.callWith_builtin rfl (Calls.evalArgs_plain (Calls.spliced_cons (thn (he.run pins s1 σ H1
    (fun v H2 => ∃ y M2, Le M1 H1 M2 H2 ∧ RelM X.K M2 H2 ∧ Rep X.K M2 H2 v y ∧ ∃ ks vs k, NdD X.w x M2.m ks vs ∧ NKey y k ∧ Q' ((findN k ks vs).getD .non) M2.m) I1
    ⟨ds, M1, _, le.trans l1, rm1, rs.mono l1.w, q1, fun d M2 v H2 q l rm2 r2 => ⟨d, M2, l, rm2, r2, q⟩⟩) fun iv s2 ⟨vy, H2, I2, ry, y, M2, l2, rm2, r2, ks, vs, k, n2, hk, q⟩ => Calls.spliced_nil ?_)))
  obtain ⟨a', es', n2⟩ := n2.get rm2 (r1.mono l2.w)
  cases n2.e
  obtain ⟨b, rfl, rfl, ik⟩ := hk.is I2 r2 ry
  obtain ⟨_, hd, xs, p, dd⟩ := n2.dict I2
  refine call_meetsIn PySem.F.slot_dict_get dd.typeIs PySem.F.entry_dict_get (PySem.F.args_dict_get_2 _ _) (meetsH_dict_get (nestedKind X.prog X.w) a b hd) ⟨nroom hu, k, xs, ik, dd, ?_⟩
  rcases n2.look k p with ⟨e1, _, e3⟩ | ⟨d, v, qq, e1, _, rd, e3, re⟩
  · rw [e3]
    rw [e1] at q
    exact ⟨.non, H2, I2.tok _, rfl, hq _ M2 _ _ q (l1.trans l2) rm2 (Rep.non_iff.mpr rfl)⟩
  · rw [e3]
    rw [e1] at q
    exact ⟨v, H2, I2.tok _, re, hq _ M2 _ _ q (l1.trans l2) rm2 rd⟩
theorem d_nget2 (hu : X.A.units + 64 < cLine) (ho : EE X M0 H0 o to) (he : EE X M0 H0 e te) (hf : EE X M0 H0 f tx)
    (h1 : attributeBase o "get" X.env (eval o X.env) = eval o X.env := by rfl)
    (h2 : ((backTo cpos (starEach [e, f] X.env)).all (fun x => !x.1) && (backToKw cpos (keywordEach [] X.env)).all (fun x => x.1.isSome)
    && decide (([e, f] : List Expr).length + ([] : List Keyword).length + (if ([] : List Keyword).isEmpty then 0 else 1) < 30)) = true := by rfl)
    (h3 : (apos.endLine == cpos.line) = true := by rfl) (h4 : backTo cpos (starEach [e, f] X.env) = [(false, eval e X.env), (false, eval f X.env)] := by rfl) :
    EE X M0 H0 (.Call (.Attribute o "get" apos) [e, f] [] cpos) (dNget2 X.w to te tx) := by
  refine ⟨fun pins s σ H Q I ⟨ds, M, Q', le, rm, rs, h, hq⟩ => ?_⟩
  refine wpAny_Call_method h1 h2 h3 PySem.F.plainAttrs_dict PySem.F.slot_dict_get PySem.F.type_dict_get (thn (ho.run pins s σ H
    (fun v H1 => ∃ x M1, Le M H M1 H1 ∧ RelM X.K M1 H1 ∧ Rep X.K M1 H1 v x ∧ (∃ ks vs, NdD X.w x M1.m ks vs) ∧ te ds M1.m fun y M2 => tx ds M2 fun z M3 => ∃ ks vs k, NdD X.w x M3 ks vs ∧ NKey y k ∧ Q' ((findN k ks vs).getD z) M3) I
    ⟨ds, M, _, le, rm, rs, h, fun d M1 v H1 q l rm1 r1 => ⟨d, M1, l, rm1, r1, q.1, q.2⟩⟩) fun u s1 ⟨v, H1, I1, rv, x, M1, l1, rm1, r1, ⟨ks0, vs0, n0⟩, q1⟩ => ?_)
  obtain ⟨a, es, n⟩ := n0.get rm1 r1
  cases n.e
  obtain rfl : u = Value.ref a := rv
  obtain ⟨t1, t2⟩ := nd_typeIs n I1
  refine ⟨t1, t2, ?_⟩
  rw [h4]
  refine Calls.callWith_builtin rfl (Calls.evalArgs_plain (Calls.spliced_cons (thn (he.run pins s1 σ H1
    (fun v H2 => ∃ y M2, Le M1 H1 M2 H2 ∧ RelM X.K M2 H2 ∧ Rep X.K M2 H2 v y ∧ tx ds M2.m fun z M3 => ∃ ks vs k, NdD X.w x M3 ks vs ∧ NKey y k ∧ Q' ((findN k ks vs).getD z) M3) I1
    ⟨ds, M1, _, le.trans l1, rm1, rs.mono l1.w, q1, fun d M2 v H2 q l rm2 r2 => ⟨d, M2, l, rm2, r2, q⟩⟩) fun iv s2 ⟨vy, H2, I2, ry, y, M2, l2, rm2, r2, q2⟩ => Calls.spliced_cons (thn (hf.run pins s2 σ H2
    (fun v H3 => ∃ z M3, Le M2 H2 M3 H3 ∧ RelM X.K M3 H3 ∧ Rep X.K M3 H3 v z ∧ ∃ ks vs k, NdD X.w x M3.m ks vs ∧ NKey y k ∧ Q' ((findN k ks vs).getD z) M3.m) I2
    ⟨ds, M2, _, (le.trans l1).trans l2, rm2, rs.mono (l1.trans l2).w, q2, fun d M3 v H3 q l rm3 r3 => ⟨d, M3, l, rm3, r3, q⟩⟩) fun fv s3 ⟨vz, H3, I3, rz, z, M3, l3, rm3, r3, ks, vs, k, n2, hk, q⟩ => Calls.spliced_nil ?_))))
  obtain ⟨a', es', n2⟩ := n2.get rm3 (r1.mono (l2.trans l3).w)
  cases n2.e
  obtain ⟨b, rfl, rfl, ik⟩ := hk.is I3 (r2.mono l3.w) ry
  obtain ⟨_, hd, xs, p, dd⟩ := n2.dict I3
  refine call_meetsIn PySem.F.slot_dict_get dd.typeIs PySem.F.entry_dict_get (PySem.F.args_dict_get_3 _ _ _) (meetsH_dict_get_default (nestedKind X.prog X.w) a b hd fv) ⟨nroom hu, k, xs, ik, dd, ?_⟩
  rcases n2.look k p with ⟨e1, _, e3⟩ | ⟨d, v, qq, e1, _, rd, e3, re⟩
  · rw [e3]
    rw [e1] at q
    exact ⟨vz, H3, I3.tok _, rz, hq _ M3 _ _ q ((l1.trans l2).trans l3) rm3 r3⟩
  · rw [e3]
    rw [e1] at q
    exact ⟨v, H3, I3.tok _, re, hq _ M3 _ _ q ((l1.trans l2).trans l3) rm3 rd⟩
/-! ### d[k] -/
def dNix (w : World) (td te : DE) : DE := fun ds M Q => td ds M fun x M1 => te ds M1 fun y M2 => ∃ ks vs k d, NdD w x M2 ks vs ∧ NKey y k ∧ findN k ks vs = some d ∧ Q d M2
theorem d_nix (hu : X.A.units + 64 < cLine) (ho : EE X M0 H0 o to) (he : EE X M0 H0 e te) (hs : NoSl e := by exact fun _ _ => rfl) : EE X M0 H0 (.Subscript o e pos) (dNix X.w to te) := by
  refine ⟨fun pins s σ H Q I ⟨ds, M, Q', le, rm, rs, h, hq⟩ => ?_⟩
  refine subD_of PySem.F.slot_dict_getitem.lookup hs (thn (ho.run pins s σ H
    (fun v H1 => ∃ x M1, Le M H M1 H1 ∧ RelM X.K M1 H1 ∧ Rep X.K M1 H1 v x ∧ te ds M1.m fun y M2 => ∃ ks vs k d, NdD X.w x M2 ks vs ∧ NKey y k ∧ findN k ks vs = some d ∧ Q' d M2) I
    ⟨ds, M, _, le, rm, rs, h, fun d M1 v H1 q l rm1 r1 => ⟨d, M1, l, rm1, r1, q⟩⟩) fun u s1 ⟨v, H1, I1, rv, x, M1, l1, rm1, r1, q1⟩ => thn (he.run pins s1 σ H1
    (fun v H2 => ∃ y M2, Le M1 H1 M2 H2 ∧ RelM X.K M2 H2 ∧ Rep X.K M2 H2 v y ∧ ∃ ks vs k d, NdD X.w x M2.m ks vs ∧ NKey y k ∧ findN k ks vs = some d ∧ Q' d M2.m) I1
    ⟨ds, M1, _, le.trans l1, rm1, rs.mono l1.w, q1, fun d M2 v H2 q l rm2 r2 => ⟨d, M2, l, rm2, r2, q⟩⟩) fun iv s2 ⟨vy, H2, I2, ry, y, M2, l2, rm2, r2, ks, vs, k, d, n2, hk, ef, q⟩ => ?_)
  obtain ⟨a, es, n2⟩ := n2.get rm2 (r1.mono l2.w)
  cases n2.e
  obtain rfl : u = Value.ref a := rv
  obtain ⟨b, rfl, rfl, ik⟩ := hk.is I2 r2 ry
  obtain ⟨_, hd, xs, p, dd⟩ := n2.dict I2
  refine ⟨dd.typeIs, ?_⟩
  rcases n2.look k p with ⟨e1, _, e3⟩ | ⟨d', v, qq, e1, _, rd, e3, re⟩
  · rw [e1] at ef; cases ef
  · rw [e1] at ef; cases ef
    exact wpAny_getItem_heap (nroom hu) ik dd e3 ⟨v, H2, I2.tok _, re, hq _ M2 _ _ q (l1.trans l2) rm2 rd⟩
/-! ### k in d -/
def dNin (w : World) (ng : Bool) (te td : DE) : DE := fun ds M Q => te ds M fun y M1 => td ds M1 fun x M2 => ∃ ks vs k, NdD w x M2 ks vs ∧ NKey y k ∧ Q (.bl (ng != (findN k ks vs).isSome)) M2
theorem pc_nin (hu : X.A.units + 64 < cLine) (he : EE X M0 H0 e te) (ho : EE X M0 H0 o to) : PC X .In e o (lE X.K M0 H0 (dNin X.w false te to)) := by
  refine ⟨fun pins s σ H Q I ⟨ds, M, Q', le, rm, rs, h, hq⟩ => ?_⟩
  refine thn (he.run pins s σ H
    (fun v H1 => ∃ y M1, Le M H M1 H1 ∧ RelM X.K M1 H1 ∧ Rep X.K M1 H1 v y ∧ to ds M1.m fun x M2 => ∃ ks vs k, NdD X.w x M2 ks vs ∧ NKey y k ∧ Q' (.bl (false != (findN k ks vs).isSome)) M2) I
    ⟨ds, M, _, le, rm, rs, h, fun d M1 v H1 q l rm1 r1 => ⟨d, M1, l, rm1, r1, q⟩⟩) fun iv s1 ⟨vy, H1, I1, ry, y, M1, l1, rm1, r1, q1⟩ => thn (ho.run pins s1 σ H1
    (fun v H2 => ∃ x M2, Le M1 H1 M2 H2 ∧ RelM X.K M2 H2 ∧ Rep X.K M2 H2 v x ∧ ∃ ks vs k, NdD X.w x M2.m ks vs ∧ NKey y k ∧ Q' (.bl (false != (findN k ks vs).isSome)) M2.m) I1
    ⟨ds, M1, _, le.trans l1, rm1, rs.mono l1.w, q1, fun d M2 v H2 q l rm2 r2 => ⟨d, M2, l, rm2, r2, q⟩⟩) fun u s2 ⟨v, H2, I2, rv, x, M2, l2, rm2, r2, ks, vs, k, n2, hk, q⟩ => ?_
  obtain ⟨a, es, n2⟩ := n2.get rm2 r2
  cases n2.e
  obtain rfl : u = Value.ref a := rv
  obtain ⟨b, rfl, rfl, ik⟩ := hk.is I2 (r1.mono l2.w) ry
  obtain ⟨_, hd, xs, p, dd⟩ := n2.dict I2
  refine wpAny_in_heap (nroom hu) ik hd dd ?_
  have fin := hq _ M2 _ _ q (l1.trans l2) rm2 (Rep.bl_iff.mpr rfl)
  rcases n2.look k p with ⟨e1, _, e3⟩ | ⟨d', v, qq, e1, _, rd, e3, re⟩
  · rw [e3]; rw [e1] at fin; exact ⟨.bl _, H2, I2.tok _, rfl, fin⟩
  · rw [e3]; rw [e1] at fin; exact ⟨.bl _, H2, I2.tok _, rfl, fin⟩
theorem pc_nnotin (hu : X.A.units + 64 < cLine) (he : EE X M0 H0 e te) (ho : EE X M0 H0 o to) : PC X .NotIn e o (lE X.K M0 H0 (dNin X.w true te to)) := by
  refine ⟨fun pins s σ H Q I ⟨ds, M, Q', le, rm, rs, h, hq⟩ => ?_⟩
  refine thn (he.run pins s σ H
    (fun v H1 => ∃ y M1, Le M H M1 H1 ∧ RelM X.K M1 H1 ∧ Rep X.K M1 H1 v y ∧ to ds M1.m fun x M2 => ∃ ks vs k, NdD X.w x M2 ks vs ∧ NKey y k ∧ Q' (.bl (true != (findN k ks vs).isSome)) M2) I
    ⟨ds, M, _, le, rm, rs, h, fun d M1 v H1 q l rm1 r1 => ⟨d, M1, l, rm1, r1, q⟩⟩) fun iv s1 ⟨vy, H1, I1, ry, y, M1, l1, rm1, r1, q1⟩ => thn (ho.run pins s1 σ H1
    (fun v H2 => ∃ x M2, Le M1 H1 M2 H2 ∧ RelM X.K M2 H2 ∧ Rep X.K M2 H2 v x ∧ ∃ ks vs k, NdD X.w x M2.m ks vs ∧ NKey y k ∧ Q' (.bl (true != (findN k ks vs).isSome)) M2.m) I1
    ⟨ds, M1, _, le.trans l1, rm1, rs.mono l1.w, q1, fun d M2 v H2 q l rm2 r2 => ⟨d, M2, l, rm2, r2, q⟩⟩) fun u s2 ⟨v, H2, I2, rv, x, M2, l2, rm2, r2, ks, vs, k, n2, hk, q⟩ => ?_
  obtain ⟨a, es, n2⟩ := n2.get rm2 r2
  cases n2.e
  obtain rfl : u = Value.ref a := rv
  obtain ⟨b, rfl, rfl, ik⟩ := hk.is I2 (r1.mono l2.w) ry
  obtain ⟨_, hd, xs, p, dd⟩ := n2.dict I2
  refine wpAny_notIn_heap (nroom hu) ik hd dd ?_
  have fin := hq _ M2 _ _ q (l1.trans l2) rm2 (Rep.bl_iff.mpr rfl)
  rcases n2.look k p with ⟨e1, _, e3⟩ | ⟨d', v, qq, e1, _, rd, e3, re⟩
  · rw [e3]; rw [e1] at fin; exact ⟨.bl _, H2, I2.tok _, rfl, fin⟩
  · rw [e3]; rw [e1] at fin; exact ⟨.bl _, H2, I2.tok _, rfl, fin⟩
theorem d_nin (hu : X.A.units + 64 < cLine) (he : EE X M0 H0 e te) (ho : EE X M0 H0 o to) (h1 : behindInMarks .In o = false := by rfl) : EE X M0 H0 (.Compare e [.In] [o] pos) (dNin X.w false te to) := pe_cmp (pc_nin hu he ho) h1
theorem d_nnotin (hu : X.A.units + 64 < cLine) (he : EE X M0 H0 e te) (ho : EE X M0 H0 o to) (h1 : behindInMarks .NotIn o = false := by rfl) : EE X M0 H0 (.Compare e [.NotIn] [o] pos) (dNin X.w true te to) := pe_cmp (pc_nnotin hu he ho) h1
theorem dt_nin (hu : X.A.units + 64 < cLine) (he : EE X M0 H0 e te) (ho : EE X M0 H0 o to) (h1 : behindInMarks .In o = false := by rfl) : ET X M0 H0 (.Compare e [.In] [o] pos) (dB (dNin X.w false te to)) := pt_imp (pt_cmp (pc_nin hu he ho) h1) fun σ H Q h => dB_ok h
theorem dt_nnotin (hu : X.A.units + 64 < cLine) (he : EE X M0 H0 e te) (ho : EE X M0 H0 o to) (h1 : behindInMarks .NotIn o = false := by rfl) : ET X M0 H0 (.Compare e [.NotIn] [o] pos) (dB (dNin X.w true te to)) := pt_imp (pt_cmp (pc_nnotin hu he ho) h1) fun σ H Q h => dB_ok h
/-! ### d[k] = v -/
/-- the dict with a pair put -/
def putK2 (ks vs : List D) (k : NestedKey) (y z : D) : List D × List D := if (findN k ks vs).isSome = true then (ks, setN k z ks vs) else (ks ++ [y], vs ++ [z])
def NputK (w : World) (x y z : D) (m : Mp) (q : Mp → Prop) : Prop := match x with
  | .ref a => ∃ ks vs k, m a = some (.dn w ks vs) ∧ NKey y k ∧ ks.length < sizeLine ∧ q (mup m a (.dn w (putK2 ks vs k y z).1 (putK2 ks vs k y z).2))
  | _ => False
def sNput (w : World) (td te tx : DE) : DSt := fun D ds M => tx ds M fun z M1 => td ds M1 fun x M2 => te ds M2 fun y M3 => NputK w x y z M3 (D.nx ds)
theorem putK2_ok {b : Addr} (h2 : ks.map nk = es.map (fun e => some e.1)) (h3 : Reps K M H (es.map fun e => V.ref e.2.1) ks) (h4 : Reps K M H (es.map (·.2.2)) vs) (ry : Rep K M H (.ref b) y) (rz : Rep K M H v d) (hk : nk y = some k) :
    (putK2 ks vs k y d).1.map nk = (putE es k b v).map (fun e => some e.1) ∧ Reps K M H ((putE es k b v).map fun e => V.ref e.2.1) (putK2 ks vs k y d).1 ∧ Reps K M H ((putE es k b v).map (·.2.2)) (putK2 ks vs k y d).2 := by
  have f := find_rel (k := k) h2 h4
  cases e1 : findN k ks vs with
  | none =>
    rw [e1] at f
    have f : findE k es = none := f
    have eP : putE es k b v = es ++ [(k, b, v)] := by unfold putE; rw [if_neg (by rw [f]; decide)]
    have eK : putK2 ks vs k y d = (ks ++ [y], vs ++ [d]) := by unfold putK2; rw [if_neg (by rw [e1]; decide)]
    rw [eP, eK]
    simp only [List.map_append, List.map_cons, List.map_nil]
    exact ⟨by rw [h2, hk], h3.append (.cons ry .nil), h4.append (.cons rz .nil)⟩
  | some q =>
    rw [e1] at f
    obtain ⟨v0, f, _⟩ := f
    have eP : putE es k b v = setE k v es := by unfold putE; rw [if_pos (by rw [f]; rfl)]
    have eK : putK2 ks vs k y d = (ks, setN k d ks vs) := by unfold putK2; rw [if_pos (by rw [e1]; rfl)]
    rw [eP, eK]
    refine ⟨?_, ?_, set_rel rz h2 h4⟩
    · have := congrArg (List.map some) (setE_key k v es)
      rw [List.map_map, List.map_map] at this
      show ks.map nk = _
      rw [h2]; exact this.symm
    · have := congrArg (List.map V.ref) (setE_at k v es)
      rw [List.map_map, List.map_map] at this
      have e3 : ((setE k v es).map fun e => V.ref e.2.1) = es.map fun e => V.ref e.2.1 := this
      rw [e3]; exact h3
theorem map_app {α β : Type} (f : α → β) (l : List α) (x : α) : (l ++ [x]).map f = l.map f ++ [f x] := by rw [List.map_append]; rfl
theorem s_nput {p1 : Pos} (hu : X.A.units + 64 < cLine) (ho : EE X M0 H0 o to) (he : EE X M0 H0 e te) (hv : EE X M0 H0 f tx) (hs : swapsWith f (some (.Subscript o e p1)) pos.line X.env = pure false := by rfl) :
    ES X M0 H0 (.Assign [.Subscript o e p1] f pos) (sNput X.w to te tx) := by
  refine ⟨fun pins s σ H D I ⟨ds, M, D', le, rm, rs, h, hq⟩ => ?_⟩
  refine wpAny_Assign_Subscript (thn (hv.run pins s σ H
    (fun v H1 => ∃ z M1, Le M H M1 H1 ∧ RelM X.K M1 H1 ∧ Rep X.K M1 H1 v z ∧ to ds M1.m fun x M2 => te ds M2 fun y M3 => NputK X.w x y z M3 (D'.nx ds)) I
    ⟨ds, M, _, le, rm, rs, h, fun d M1 v H1 q l rm1 r1 => ⟨d, M1, l, rm1, r1, q⟩⟩) fun r s1 ⟨vz, H1, I1, rz, z, M1, l1, rm1, r1, q1⟩ => thn (ho.run pins s1 σ H1
    (fun v H2 => ∃ x M2, Le M1 H1 M2 H2 ∧ RelM X.K M2 H2 ∧ Rep X.K M2 H2 v x ∧ te ds M2.m fun y M3 => NputK X.w x y z M3 (D'.nx ds)) I1
    ⟨ds, M1, _, le.trans l1, rm1, rs.mono l1.w, q1, fun d M2 v H2 q l rm2 r2 => ⟨d, M2, l, rm2, r2, q⟩⟩) fun u s2 ⟨v, H2, I2, rv, x, M2, l2, rm2, r2, q2⟩ => thn (he.run pins s2 σ H2
    (fun v H3 => ∃ y M3, Le M2 H2 M3 H3 ∧ RelM X.K M3 H3 ∧ Rep X.K M3 H3 v y ∧ NputK X.w x y z M3.m (D'.nx ds)) I2
    ⟨ds, M2, _, (le.trans l1).trans l2, rm2, rs.mono (l1.trans l2).w, q2, fun d M3 v H3 q l rm3 r3 => ⟨d, M3, l, rm3, r3, q⟩⟩) fun iv s3 ⟨vy, H3, I3, ry, y, M3, l3, rm3, r3, q⟩ => ?_) hs
  cases x with
  | ref a =>
    obtain ⟨ks, vs, k, hm, hk, hl, q⟩ := q
    rw [Rep.ref_iff] at r2
    subst r2
    obtain rfl : u = Value.ref a := rv
    obtain ⟨es, h1, h2, h3, h4⟩ := rm3.o _ _ hm
    have n2 : NdV X.K M3 H3 X.w (.ref a) a es ks vs := ⟨rfl, .inl h1, h2, h3, h4⟩
    obtain ⟨b, rfl, rfl, ik⟩ := hk.is I3 r3 ry
    obtain ⟨hz, hd, xs, p, dd⟩ := n2.dict I3
    have hz2 : xs.length ≤ sizeLine := by rw [← Paired.length p]; exact hz
    refine wpAny_setItem_heap (hsz := hz2) (nroom hu) ik dd fun h' dd' hs' => ?_
    have hel : es.length = ks.length := by
      have := congrArg List.length h2
      simpa using this.symm
    have pu := put_rel (k := k) (a := b) rz p
    obtain ⟨⟨_, _, _, hde, _⟩, _, _⟩ := I3.hok a _ h1
    have new : ObjOk X.prog X.w (upd H3 a (.ext (NdAt X.w a (putE es k b vz)))) h' a (.ext (NdAt X.w a (putE es k b vz))) := by
      refine nd_new ?_ hd (fun e he => ?_) pu dd'
      · have := putE_len es k b vz; omega
      · unfold putE at he
        split at he
        · have : e.1 ∈ es.map (·.1) := by rw [← setE_key k vz es]; exact List.mem_map_of_mem he
          obtain ⟨e', he', e2⟩ := List.mem_map.mp this
          rw [← e2]; exact hde e' he'
        · rcases List.mem_append.mp he with he | he
          · exact hde e he
          · rw [List.mem_singleton.mp he]; exact hk.2.2
    have hex : ∃ q, h'.get? a = some q := let ⟨q, _, _, hq, _⟩ := dd'; ⟨q, hq⟩
    have I4 := d_write (t' := s3.toks + (nestedKind X.prog X.w).draws k) I3 (by rw [h1]; exact True.intro) hs' hex new
    have lp := Le.put (o := .ext (NdAt X.w a (putE es k b vz))) (mo := .dn X.w (putK2 ks vs k y z).1 (putK2 ks vs k y z).2) (H := H3) hm
    have L := (l1.trans l2).trans l3
    refine ⟨σ, _, I4, hq.nx _ ⟨mup M3.m a (.dn X.w (putK2 ks vs k y z).1 (putK2 ks vs k y z).2), M3.s⟩ _ _ q (L.trans lp) (rm3.put hm ⟨_, upd_same, ?_⟩) ((rs.mono L.w).mono lp.w)⟩
    exact putK2_ok h2 (h3.mono lp.w) (h4.mono lp.w) (r3.mono lp.w) ((r1.mono (l2.trans l3).w).mono lp.w) hk.2.1
  | _ => exact q.elim
end
end Lt
/-! dicts whose keys are tuples: made, locked, walked -/
namespace Lt
open PySem PySem.Spec PyProof.Rows L2
section
variable {X : Cx} {M0 : Wd} {H0 : Hp} {e f o : Expr} {te tx to : DE} {pos apos cpos : Pos} {w : World}
variable {K : PySem.W.Frag} {M W : Wd} {H : Hp} {pins : List (Addr × Obj)} {σ : L2.St} {s : Shared} {a : Addr} {es : List Ent} {ks vs : List D} {k : NestedKey} {d x y : D} {v z : V} {u r : Value} {A : PySem.Around} {E : Value → Shared → Prop}
/-! ### {} -/
def dNnew (w : World) : DE := fun _ M Q => ∀ p, M p = none → Q (.ref p) (mup M p (.dn w [] []))
theorem nd_empty {P : Program} {h : Heap} {H : Hp} (hb : sysModules < h.objs.size) : ObjOk P w H (h.push { cls := .type "dict", data := .dict #[] }) h.objs.size (.ext (NdAt w h.objs.size [])) :=
  nd_new (xs := []) (Nat.zero_le _) (beq_eq_false_iff_ne.mpr (Ne.symm (Nat.ne_of_lt hb))) (fun _ h => nomatch h) .nil (Heap.DictOfH.new h)
theorem d_nnew : EE X M0 H0 (.Dict [] [] pos) (dNnew X.w) := by
  refine ⟨fun pins s σ H Q I ⟨ds, M, Q', le, rm, rs, h, hq⟩ => ?_⟩
  have hp := I.hok.fresh (Nat.le_refl s.heap.objs.size)
  refine wpAny_Dict_empty ⟨.ref s.heap.objs.size, _, I.laid (a := s.heap.objs.size) (o := .ext (NdAt X.w s.heap.objs.size [])) (t' := s.toks) (fun _ _ q => Heap.get?_push_of_some _ q) (Nat.le_refl _) (nd_empty I.big), rfl, ?_⟩
  have ln := Le.newM (o := .ext (NdAt X.w s.heap.objs.size [])) (mo := .dn X.w [] []) rm hp
  exact hq _ ⟨mup M.m s.heap.objs.size (.dn X.w [] []), M.s⟩ _ _ (h _ (rm.free hp)) ln (rm.newM hp ⟨[], upd_same, rfl, .nil, .nil⟩) (Rep.ref_iff.mpr rfl)
/-! ### {k: v}, never changed, locked -/
def dNd1 (w : World) (tk te : DE) : DE := fun ds M Q => tk ds M fun y M1 => te ds M1 fun z M2 => ∃ k, NKey y k ∧ Q (.dn w [y] [z]) M2
theorem hid_new {u : HO} (rm : RelM K M H) (hp : H a = none) : Lw M H ⟨M.m, hid M.s a⟩ (upd H a u) ∧ RelM K ⟨M.m, hid M.s a⟩ (upd H a u) := by
  have lw0 : Lw M H ⟨M.m, hid M.s a⟩ (upd H a u) := fun b o h1 h2 h3 => ⟨h1, fun z => z.elim h2 (ne_of_none h3 hp), by rw [upd_ne (ne_of_none h3 hp)]; exact h3⟩
  refine ⟨lw0, fun b o e => ?_, fun b z => ?_⟩
  · have ne : b ≠ a := fun z => by rw [z] at e; have := rm.free hp; rw [this] at e; cases e
    exact (rm.o b o e).mono lw0 (upd_ne ne)
  · rcases z with z | rfl
    · obtain ⟨h1, o, e⟩ := rm.h b z
      exact ⟨h1, o, by rw [upd_ne (ne_of_none e hp)]; exact e⟩
    · exact ⟨rm.free hp, _, upd_same⟩
/-- a hidden thing is written for the last time, and shown -/
theorem show_new {M2 : Mp} {S : Addr → Prop} {u : HO} (rm : RelM K ⟨M2, hid S a⟩ H) (hn : ∀ b, S b → b ≠ a) : Lw ⟨M2, hid S a⟩ H ⟨M2, S⟩ (upd H a u) ∧ RelM K ⟨M2, S⟩ (upd H a u) := by
  have lw : Lw ⟨M2, hid S a⟩ H ⟨M2, S⟩ (upd H a u) := fun b o h1 h2 h3 => ⟨h1, fun z => h2 (.inl z), by rw [upd_ne fun z => h2 (.inr z)]; exact h3⟩
  refine ⟨lw, fun b o e => ?_, fun b z => ?_⟩
  · have ne : b ≠ a := fun z => by rw [z] at e; have := (rm.h a (.inr rfl)).1; rw [this] at e; cases e
    exact (rm.o b o e).mono lw (upd_ne ne)
  · obtain ⟨h1, o, e⟩ := rm.h b (.inl z)
    exact ⟨h1, o, by rw [upd_ne (hn b z)]; exact e⟩
theorem d_nd1 {kx vx : Expr} {tk : DE} (hu : X.A.units + 64 < cLine) (hk : ∀ (M0 : Wd) (H0 : Hp), EE X M0 H0 kx tk) (hv : ∀ (M0 : Wd) (H0 : Hp), EE X M0 H0 vx te)
    : EE X M0 H0 (.Dict [some kx] [vx] pos) (dNd1 X.w tk te) := by
  refine ⟨fun pins s σ H Q I ⟨ds, M, Q', le, rm, rs, h, hq⟩ => ?_⟩
  have hpl : (pairTrees [some kx] [vx] X.env pos).length = 1 := pairTrees_length [some kx] [vx] X.env pos rfl rfl
  rw [arm_eval_Dict, zip_pairTrees [some kx] [vx] X.env pos rfl rfl, dictDisplay_pairs _ (by intro z; rw [z] at hpl; cases hpl) (by rw [hpl]; decide)]
  have hp := I.hok.fresh (Nat.le_refl s.heap.objs.size)
  have hpm := rm.free hp
  have I1 := I.laid (a := s.heap.objs.size) (o := .ext (NdAt X.w s.heap.objs.size [])) (h' := s.heap.push { cls := .type "dict", data := .dict #[] }) (t' := s.toks) (fun _ _ q => Heap.get?_push_of_some _ q) (Nat.le_refl _) (nd_empty I.big)
  have hvis := rm.vis hp
  obtain ⟨lw0, rm0⟩ := hid_new (u := .ext (NdAt X.w s.heap.objs.size [])) rm hp
  refine wpAny_bind (wpAny_standAt (wpAny_bind (wpAny_subDictH (knd := nestedKind X.prog X.w) (by show X.A.units + 8 < cLine; omega) (by rw [hpl]; decide)
    (pairTrees_cons_walk (thn ((hk ⟨M.m, hid M.s s.heap.objs.size⟩ (upd H s.heap.objs.size (.ext (NdAt X.w s.heap.objs.size [])))).run pins _ σ _
      (fun v H1 => ∃ y M1, Le ⟨M.m, hid M.s s.heap.objs.size⟩ (upd H s.heap.objs.size (.ext (NdAt X.w s.heap.objs.size []))) M1 H1 ∧ RelM X.K M1 H1 ∧ Rep X.K M1 H1 v y ∧ te ds M1.m fun z M2 => ∃ k, NKey y k ∧ Q' (.dn X.w [y] [z]) M2) I1
      ⟨ds, ⟨M.m, hid M.s s.heap.objs.size⟩, _, .refl, rm0, rs.mono lw0, h, fun d M1 v H1 q l rm1 r1 => ⟨d, M1, l, rm1, r1, q⟩⟩) fun kv s1 ⟨vy, H1, I1, ry, y, M1, l1, rm1, r1, q1⟩ => thn ((hv M1 H1).run pins s1 σ H1
      (fun v H2 => ∃ z M2, Le M1 H1 M2 H2 ∧ RelM X.K M2 H2 ∧ Rep X.K M2 H2 v z ∧ ∃ k, NKey y k ∧ Q' (.dn X.w [y] [z]) M2.m) I1
      ⟨ds, M1, _, .refl, rm1, (rs.mono lw0).mono l1.w, q1, fun d M2 v H2 q l rm2 r2 => ⟨d, M2, l, rm2, r2, q⟩⟩) fun vv s2 ⟨vz, H2, I2, rz, z, M2, l2, rm2, r2, k, hk, q⟩ => pairTrees_nil_walk ?_))))) 
  have l := l1.trans l2
  have es : M2 = ⟨M2.m, hid M.s s.heap.objs.size⟩ := by have := l.2; cases M2; simp at this ⊢; exact this
  have hpe : H2 s.heap.objs.size = some (.ext (NdAt X.w s.heap.objs.size [])) := (l.1 _ _ hpm upd_same).2
  obtain ⟨b, rfl, rfl, ik⟩ := hk.is I2 (r1.mono l2.w) ry
  have n0 : NdV X.K M2 H2 X.w (.ref s.heap.objs.size) s.heap.objs.size [] [] [] := ⟨rfl, .inl hpe, rfl, .nil, .nil⟩
  obtain ⟨_, hd, xs0, p0, dd0⟩ := n0.dict I2
  cases p0
  refine ⟨[(k, b, vv)], ⟨rfl, rfl, ik, trivial⟩, dd0, fun h' tk' dd' hs' => wpAny_pure ?_⟩
  have est : storedAllH ([] : List (NestedKey × Addr × Value)) [(k, b, vv)] = [(k, b, vv)] := rfl
  rw [est] at dd'
  have new : ∀ H', ObjOk X.prog X.w H' h' s.heap.objs.size (.ext (NdAt X.w s.heap.objs.size [(k, b, vz)])) := fun H' =>
    nd_new (by show 1 ≤ sizeLine; decide) hd (fun e he => by rw [List.mem_singleton.mp he]; exact hk.2.2) (.cons ⟨rfl, rfl, rz⟩ .nil) dd'
  have hex : ∃ q, h'.get? s.heap.objs.size = some q := let ⟨q, _, _, hq, _⟩ := dd'; ⟨q, hq⟩
  have I3 := d_write (t' := tk') I2 (by rw [hpe]; exact True.intro) hs' hex (new _)
  obtain ⟨od, I4⟩ := I3.lock upd_same True.intro
  rw [upd_upd] at I4
  rw [es] at rm2 r2 l
  have r1' := r1.mono l2.w
  rw [es] at r1'
  obtain ⟨lw, rm4⟩ := show_new (u := .frz od (.ext (NdAt X.w s.heap.objs.size [(k, b, vz)]))) rm2 fun b z => ne_of_none (rm.h b z).2.choose_spec hp
  refine ⟨.ref s.heap.objs.size, _, I4, rfl, hq _ ⟨M2.m, M.s⟩ _ _ q ⟨fun a o h1 h2 => ?_, rfl⟩ rm4 (Rep.dn_iff.mpr ⟨_, [(k, b, vz)], rfl, ⟨(rm2.h _ (.inr rfl)).1, hvis, od, upd_same⟩, by simp [hk.2.1], .cons (r1'.mono lw) .nil, .cons (r2.mono lw) .nil⟩)⟩
  have ne := ne_of_none h2 hp
  obtain ⟨e1, e2⟩ := l.1 a o h1 (by rw [upd_ne ne]; exact h2)
  exact ⟨e1, by rw [upd_ne ne]; exact e2⟩
/-! ### from here on never changed, locked -/
def sFrzN (w : World) (i : Nat) (t : DSt) : DSt := fun D ds M => match ds[i]? with
  | some (some (.ref a)) => ∃ ks vs, M a = some (.dn w ks vs) ∧ t D (ds.set i (some (.dn w ks vs))) (mrm M a)
  | _ => False
def sFrzL (i : Nat) (t : DSt) : DSt := fun D ds M => match ds[i]? with
  | some (some (.ref a)) => ∃ ks vs, M a = some (.dct ks vs) ∧ t D (ds.set i (some (.dcl ks vs))) (mrm M a)
  | _ => False
theorem lock_rel {mo : MO} {u : HO} (rm : RelM K M H) (h : M.m a = some mo) : Le M H ⟨mrm M.m a, M.s⟩ (upd H a u) ∧ RelM K ⟨mrm M.m a, M.s⟩ (upd H a u) ∧ ¬ M.s a := by
  have le : Le M H ⟨mrm M.m a, M.s⟩ (upd H a u) := ⟨fun b o h1 h2 => by
    have ne : b ≠ a := fun z => by rw [z, h] at h1; cases h1
    exact ⟨by show mrm M.m a b = none; rw [mrm_ne ne]; exact h1, by rw [upd_ne ne]; exact h2⟩, rfl⟩
  refine ⟨le, ⟨fun b o e => ?_, fun b z => ?_⟩, fun z => by have := (rm.h a z).1; rw [h] at this; cases this⟩
  · by_cases ne : b = a
    · subst ne
      have e : mrm M.m b b = some o := e
      rw [mrm_same] at e; cases e
    · have e : mrm M.m a b = some o := e
      rw [mrm_ne ne] at e
      exact (rm.o b o e).mono le.w (upd_ne ne)
  · obtain ⟨h1, o, h2⟩ := rm.h b z
    have ne : b ≠ a := fun q => by rw [q, h] at h1; cases h1
    exact ⟨by show mrm M.m a b = none; rw [mrm_ne ne]; exact h1, o, by rw [upd_ne ne]; exact h2⟩
theorem ss_frzN {sts : List Stmt} {tS : DSt} (i : Nat) (h : EB X M0 H0 sts tS) : EB X M0 H0 sts (sFrzN X.w i tS) := by
  refine ⟨fun pins s σ H D I ⟨ds, M, D', le, rm, rs, q, hq⟩ => ?_⟩
  unfold sFrzN at q
  split at q
  · rename_i a e
    obtain ⟨ks, vs, hm, q⟩ := q
    obtain ⟨v, e1, r⟩ := rs.get e
    rw [Rep.ref_iff] at r
    subst r
    obtain ⟨es, h1, h2, h3, h4⟩ := rm.o _ _ hm
    obtain ⟨od, I1⟩ := I.lock h1 True.intro
    obtain ⟨l1, rm1, hv⟩ := lock_rel (u := .frz od (.ext (NdAt X.w a es))) rm hm
    have rs' := (rs.mono l1.w).set i (Rep.dn_iff.mpr ⟨a, es, rfl, ⟨mrm_same, hv, od, upd_same⟩, h2, h3.mono l1.w, h4.mono l1.w⟩ : Rep X.K ⟨mrm M.m a, M.s⟩ _ (.ref a) (.dn X.w ks vs))
    rw [set_self e1] at rs'
    exact h.run pins s σ _ D I1 ⟨_, ⟨mrm M.m a, M.s⟩, D', le.trans l1, rm1, rs', q, hq.mono l1⟩
  · exact q.elim
theorem ss_frzL {sts : List Stmt} {tS : DSt} (i : Nat) (h : EB X M0 H0 sts tS) : EB X M0 H0 sts (sFrzL i tS) := by
  refine ⟨fun pins s σ H D I ⟨ds, M, D', le, rm, rs, q, hq⟩ => ?_⟩
  unfold sFrzL at q
  split at q
  · rename_i a e
    obtain ⟨ks, vs, hm, q⟩ := q
    obtain ⟨v, e1, r⟩ := rs.get e
    rw [Rep.ref_iff] at r
    subst r
    obtain ⟨xs, h1, h2, h3⟩ := rm.o _ _ hm
    obtain ⟨od, I1⟩ := I.lock h1 True.intro
    obtain ⟨l1, rm1, hv⟩ := lock_rel (u := .frz od (.dK (ks.zip xs))) rm hm
    have rs' := (rs.mono l1.w).set i (Rep.dcl_iff.mpr ⟨a, xs, rfl, ⟨mrm_same, hv, od, upd_same⟩, h2, h3.mono l1.w⟩ : Rep X.K ⟨mrm M.m a, M.s⟩ _ (.ref a) (.dcl ks vs))
    rw [set_self e1] at rs'
    exact h.run pins s σ _ D I1 ⟨_, ⟨mrm M.m a, M.s⟩, D', le.trans l1, rm1, rs', q, hq.mono l1⟩
  · exact q.elim
end
end Lt
/-! walks over dicts whose keys are tuples -/
namespace Lt
open PySem PySem.Spec PyProof.Rows L2
section
variable {X : Cx} {M0 : Wd} {H0 : Hp} {e f o : Expr} {te tx to : DE} {pos apos cpos : Pos} {w : World} {P : Program}
variable {K : PySem.W.Frag} {M W : Wd} {H : Hp} {pins : List (Addr × Obj)} {σ : L2.St} {s : Shared} {a d : Addr} {es : List Ent} {ks vs : List D} {ob : Obj} {tg : Expr} {ts : Array DictEntry} {ep : Nat}
theorem paired_at {α β : Type} {R : α → β → Prop} {xs : List α} {ys : List β} (h : Paired R xs ys) {i : Nat} {x : α} (e : xs[i]? = some x) : ∃ y, ys[i]? = some y ∧ R x y := by
  induction h generalizing i with
  | nil => simp at e
  | cons r t ih =>
    cases i with
    | zero => simp at e; subst e; exact ⟨_, rfl, r⟩
    | succ i => simp at e ⊢; exact ih e
/-- a locked one, as it stands -/
theorem frzN (ok : HOk P w H s.heap) (h : H d = some (.frz ob (.ext (NdAt w d es)))) : (d == sysModules) = false ∧ ∃ ts ep, ob.data = .dict ts ep ∧ s.heap.DictRaw d ts ep ∧ ts.size = es.length ∧
    ∀ (i : Nat) (e : Ent), es[i]? = some e → ∃ t : DictEntry, ts[i]? = some t ∧ t.key = .ref e.2.1 ∧ RelV e.2.2 t.val := by
  obtain ⟨g, ⟨_, hd, _, _, o', ts, ep, xs, h1, h2, h3, h4, h5⟩, _, _⟩ := ok d _ h
  rw [g] at h1
  cases h1
  have hl : ts.size = xs.length := by rw [← Array.length_toList, h4, List.length_map]
  refine ⟨hd, ts, ep, h3, ⟨_, g, h2, h3⟩, by rw [hl, ← Paired.length h5], fun i e he => ?_⟩
  obtain ⟨x, hx, r⟩ := paired_at h5 he
  refine ⟨⟨x.1.hash w, .ref x.2.1, x.2.2⟩, ?_, by rw [← r.2.1], r.2.2⟩
  rw [← Array.getElem?_toList, h4, List.getElem?_map, hx]; rfl
def Itn (w : World) (d : Addr) (ob : Obj) (es : List Ent) : It :=
  ⟨fun i H => H d = some (.frz ob (.ext (NdAt w d es))) ∧ i < es.length, fun i H x H' => H' = H ∧ ∃ e, es[i]? = some e ∧ x = .ref e.2.1, fun i H => H d = some (.frz ob (.ext (NdAt w d es))) ∧ es.length ≤ i⟩
def Itni (w : World) (d : Addr) (ob : Obj) (es : List Ent) : It :=
  ⟨fun i H => H d = some (.frz ob (.ext (NdAt w d es))) ∧ i < es.length, fun i H x H' => ∃ T e, es[i]? = some e ∧ x = .ref T ∧ H T = none ∧ H' = upd H T (.tup [.ref e.2.1, e.2.2]), fun i H => H d = some (.frz ob (.ext (NdAt w d es))) ∧ es.length ≤ i⟩
theorem turn_nkeys (it : Addr) (hod : ob.data = .dict ts ep) : Turn P w K tg (Itn w d ob es) [it] it (fun i h => h.IsKeyIter it d i es.length ep) where
  mem := by simp
  obj := fun i h st b hb => by
    have e : b = it := by simpa using hb
    subst e
    obtain ⟨oi, e, c, dd⟩ := st
    exact ⟨oi, e, fun v z => by rw [dd] at z; cases z⟩
  keep := fun i h h' st k => st.at fun oi e => k it (by simp) oi e
  item := by
    intro X hP hw hK hc i pins s σ H E I hf st hg
    subst hP hw hK
    obtain ⟨hd, hi⟩ := hg
    obtain ⟨f0, f1, f2, f3, f4, f5⟩ := hf it (by simp)
    obtain ⟨hs, ts', ep', hdt, hraw, hsz, ent⟩ := frzN I.hok hd
    obtain ⟨rfl, rfl⟩ := dict_ep hod hdt
    obtain ⟨e, he⟩ : ∃ p, es[i]? = some p := ⟨es[i], List.getElem?_eq_getElem hi⟩
    obtain ⟨en, hen, hkey, hq⟩ := ent i e he
    obtain ⟨od, hgd, _, _⟩ := hraw
    refine next_key_item st hgd (by obtain ⟨g, _⟩ := I.hok d _ hd; rw [g] at hgd; cases hgd; exact hdt) hsz hen fun h' st' sb => ?_
    have I1 : Inv X pins σ H { s with heap := h' } := I.turned (t' := s.toks) (fun b ob hb e => (sb.2 b hb).trans e) f0 f1 f3 f4 f5
    obtain ⟨oi, e', c, dd⟩ := id st'
    exact ⟨en.key, rfl, go_of (s := { s with heap := h' }) e' c dd (by decide) ⟨.ref e.2.1, H, I1, hkey, ⟨rfl, e, he, rfl⟩, st', fun b hb => (hf b hb).1⟩⟩
  done := by
    intro X hP hw hK hc i pins s σ H E I hf st hg
    subst hP hw hK
    obtain ⟨hd, hi⟩ := hg
    obtain ⟨f0, f1, f2, f3, f4, f5⟩ := hf it (by simp)
    obtain ⟨hs, ts', ep', hdt, hraw, hsz, ent⟩ := frzN I.hok hd
    obtain ⟨rfl, rfl⟩ := dict_ep hod hdt
    obtain ⟨od, hgd, _, _⟩ := hraw
    exact next_key_end (I.ok.hd hc) st hgd (by obtain ⟨g, _⟩ := I.hok d _ hd; rw [g] at hgd; cases hgd; exact hdt) hsz hi fun h' eb => ⟨rfl, I.turned (t' := s.toks) (fun b ob hb e => eb b ob hb e) f0 f1 f3 f4 f5⟩
  self := fun A i s Q E st h => by
    refine wpAny_pyIter_slot st.typeIs PySem.F.slot_dict_keyiterator_iter (wpAny_call_entry PySem.F.slot_dict_keyiterator_iter st.typeIs PySem.F.entry_dict_keyiterator_iter ?_ (PySem.F.args_dict_keyiterator_iter_1 _))
    show wpAny _ _ (ret (.ref it)) _ _ s
    exact wpAny_pure ⟨_, rfl, "dict_keyiterator", _, st.typeIs, PySem.F.slot_dict_keyiterator_next.lookup, h⟩
theorem turn_nitems {elts : List Expr} {kk : Nat} {tpos : Pos} (it : Addr) (hod : ob.data = .dict ts ep) :
    Turn P w K (.Tuple elts kk tpos) (Itni w d ob es) [it] it (fun i h => ∃ ok ov, IsItemIter h it d i es.length ep ok ov) where
  mem := by simp
  obj := fun i h st b hb => by
    have e : b = it := by simpa using hb
    subst e
    obtain ⟨ok, ov, e⟩ := st
    exact ⟨_, e, fun v z => nomatch z⟩
  keep := fun i h h' st k => let ⟨ok, ov, e⟩ := st; ⟨ok, ov, k it (by simp) _ e⟩
  item := by
    intro X hP hw hK hc i pins s σ H E I hf st hg
    subst hP hw hK
    obtain ⟨hd, hi⟩ := hg
    obtain ⟨hs, ts', ep', hdt, hraw, hsz, ent⟩ := frzN I.hok hd
    obtain ⟨rfl, rfl⟩ := dict_ep hod hdt
    obtain ⟨e, he⟩ : ∃ p, es[i]? = some p := ⟨es[i], List.getElem?_eq_getElem hi⟩
    obtain ⟨en, hen, hkey, hq⟩ := ent i e he
    obtain ⟨hlt2, hen2⟩ := Array.getElem?_eq_some_iff.mp hen
    obtain ⟨ok, ov, hit⟩ := st
    rw [← hsz] at hit
    have hlt : it < s.heap.objs.size := Heap.lt_size hit
    refine wpAny_pyNext_items_item_raw hit hraw hlt2 fun h' ho hT hz hk => ?_
    rw [hen2] at ho hT
    refine ⟨_, rfl, wpAny_letOwnedTupleGo_items (s := { s with heap := h' }) ho fun h'' he' sb => ?_⟩
    have hT2 : h''.get? s.heap.objs.size = some { cls := .type "tuple", data := .seq #[en.key, en.val] } := (sb.2 _ (Nat.ne_of_gt hlt)).trans hT
    have new : ObjOk X.prog X.w (upd H s.heap.objs.size (.tup [.ref e.2.1, e.2.2])) h'' s.heap.objs.size (.tup [.ref e.2.1, e.2.2]) :=
      ⟨by show 2 ≤ sizeLine; decide, [en.key, en.val], .cons hkey (.cons hq .nil), ⟨_, hT2, rfl, _, rfl⟩⟩
    have I1 : Inv X pins σ (upd H s.heap.objs.size (.tup [.ref e.2.1, e.2.2])) { s with heap := h'' } :=
      I.turnedNew (t' := s.toks) (ch := [it]) (fun b ob hb e => (sb.2 b (by simpa using hb)).trans (hk b ob (by simpa using hb) e)) hf (Nat.le_refl _) new
    refine ⟨.ref s.heap.objs.size, _, I1, rfl, ⟨_, e, he, rfl, I.hok.fresh (Nat.le_refl _), rfl⟩, ⟨en.key, en.val, ?_⟩, fun b hb => ?_⟩
    · rw [← hsz]; exact he'
    · have e : b = it := by simpa using hb
      rw [e, upd_ne (Nat.ne_of_lt hlt)]
      exact (hf it (by simp)).1
  done := by
    intro X hP hw hK hc i pins s σ H E I hf st hg
    subst hP hw hK
    obtain ⟨hd, hi⟩ := hg
    obtain ⟨f0, f1, f2, f3, f4, f5⟩ := hf it (by simp)
    obtain ⟨hs, ts', ep', hdt, hraw, hsz, ent⟩ := frzN I.hok hd
    obtain ⟨rfl, rfl⟩ := dict_ep hod hdt
    obtain ⟨ok, ov, hit⟩ := st
    rw [← hsz] at hit
    exact wpAny_pyNext_items_end_raw (I.ok.hd hc) hit hraw (by omega) fun h' eb => ⟨rfl, I.turned (t' := s.toks) (fun b ob hb e => eb b ob hb e) f0 f1 f3 f4 f5⟩
  self := fun A i s Q E st h => let ⟨_, _, e⟩ := st; PySem.W.kcp_self e h
/-- what a locked dict gives: its keys; its pairs -/
structure NdL (K : PySem.W.Frag) (w : World) (M : Wd) (H : Hp) (a : Addr) (ob : Obj) (es : List Ent) (ks vs : List D) : Prop where
  at' : M.m a = none ∧ ¬ M.s a ∧ H a = some (.frz ob (.ext (NdAt w a es)))
  ek : ks.map nk = es.map (fun e => some e.1)
  rk : Reps K M H (es.map fun e => V.ref e.2.1) ks
  rv : Reps K M H (es.map (·.2.2)) vs
theorem NdL.mono {M1 : Wd} {H1 : Hp} (l : Lw M H M1 H1) (n : NdL K w M H a ob es ks vs) : NdL K w M1 H1 a ob es ks vs := ⟨l _ _ n.at'.1 n.at'.2.1 n.at'.2.2, n.ek, n.rk.mono l, n.rv.mono l⟩
theorem walks_nkeys (n : NdL K w M H a ob es ks vs) : Walks K M H ks (Itn w a ob es) := fun M1 H1 l rm i => by
  have n1 := n.mono l
  have hl : es.length = ks.length := by have := n.rk.len; simpa using this
  refine ⟨fun d hd => ?_, fun hi => ⟨n1.at'.2.2, by rw [hl]; exact hi⟩⟩
  have hi := (List.getElem?_eq_some_iff.mp hd).1
  refine ⟨⟨n1.at'.2.2, by rw [hl]; exact hi⟩, fun x H2 y => ?_⟩
  obtain ⟨rfl, e, he, rfl⟩ := y
  obtain ⟨v, ev, rv⟩ := n1.rk.get hd
  rw [List.getElem?_map, he] at ev
  cases ev
  exact ⟨.refl, rm, rv⟩
theorem walks_nitems (n : NdL K w M H a ob es ks vs) : Walks K M H (zipD ks vs) (Itni w a ob es) := fun M1 H1 l rm i => by
  have n1 := n.mono l
  have hl : es.length = ks.length := by have := n.rk.len; simpa using this
  have hl2 : es.length = vs.length := by have := n.rv.len; simpa using this
  have hz : (zipD ks vs).length = es.length := by rw [zipD_len]; omega
  refine ⟨fun d hd => ?_, fun hi => ⟨n1.at'.2.2, by rw [← hz]; exact hi⟩⟩
  have hi := (List.getElem?_eq_some_iff.mp hd).1
  refine ⟨⟨n1.at'.2.2, by rw [← hz]; exact hi⟩, fun x H2 y => ?_⟩
  obtain ⟨T, e, he, rfl, hT, rfl⟩ := y
  obtain ⟨kd, vd, hk, hv, rfl⟩ := zipD_at hd
  obtain ⟨v1, ev1, rv1⟩ := n1.rk.get hk
  obtain ⟨v2, ev2, rv2⟩ := n1.rv.get hv
  rw [List.getElem?_map, he] at ev1 ev2
  cases ev1
  cases ev2
  exact ⟨.new hT, rm.new hT, .tupN rm hT (.cons rv1 (.cons rv2 .nil))⟩
def iNkeys (w : World) (te : DE) : DI := fun ds M Q => te ds M fun x M1 => ∃ ks vs, x = .dn w ks vs ∧ Q ks M1
def iNitems (w : World) (te : DE) : DI := fun ds M Q => te ds M fun x M1 => ∃ ks vs, x = .dn w ks vs ∧ Q (zipD ks vs) M1
theorem i_nkeys (he : EE X M0 H0 e te) : EI X M0 H0 tg e (iNkeys X.w te) := by
  refine ⟨fun pins s σ H R I ⟨ds, M, Q', le, rm, rs, h, hq⟩ => ?_⟩
  refine thn (he.run pins s σ H (fun v H1 => ∃ ks vs M1, Le M H M1 H1 ∧ RelM X.K M1 H1 ∧ Rep X.K M1 H1 v (.dn X.w ks vs) ∧ Q' ks M1.m) I
    ⟨ds, M, _, le, rm, rs, h, fun d M1 v H1 q l rm1 r1 => (by obtain ⟨ks, vs, rfl, q⟩ := q; exact ⟨ks, vs, M1, l, rm1, r1, q⟩)⟩) fun u s1 ⟨v, H1, I1, rv, ks, vs, M1, l1, rm1, r1, q⟩ => ?_
  obtain ⟨a, es, rfl, ⟨h1, h2, ob, h3⟩, h4, h5, h6⟩ := Rep.dn_iff.mp r1
  obtain rfl : u = Value.ref a := rv
  obtain ⟨hs, ts, ep, hdt, hraw, hsz, ent⟩ := frzN I1.hok h3
  have fin := hq ks M1 H1 (Itn X.w a ob es) q l1 rm1 (walks_nkeys ⟨⟨h1, h2, h3⟩, h4, h5, h6⟩)
  refine wpAny_pyIter_dict_raw hs hraw (pi_one (tk := s1.toks) I1 _ (turn_nkeys _ hdt) ⟨_, Heap.get?_push_size _ rfl, rfl, ?_⟩ fin)
  rw [hsz] <;> rfl
theorem i_nitems {elts : List Expr} {kk : Nat} {tpos : Pos} (he : EE X M0 H0 e te) (hbase : attributeBase e "items" X.env (eval e X.env) = eval e X.env := by rfl) (hline : (apos.endLine == cpos.line) = true := by rfl) :
    EI X M0 H0 (.Tuple elts kk tpos) (.Call (.Attribute e "items" apos) [] [] cpos) (iNitems X.w te) := by
  refine ⟨fun pins s σ H R I ⟨ds, M, Q', le, rm, rs, h, hq⟩ => ?_⟩
  refine wpAny_Call_method (T := "dict") (id := "dict.items") hbase rfl hline PySem.F.plainAttrs_dict PySem.F.slot_dict_items PySem.F.type_dict_items (thn (he.run pins s σ H (fun v H1 => ∃ ks vs M1, Le M H M1 H1 ∧ RelM X.K M1 H1 ∧ Rep X.K M1 H1 v (.dn X.w ks vs) ∧ Q' (zipD ks vs) M1.m) I
    ⟨ds, M, _, le, rm, rs, h, fun d M1 v H1 q l rm1 r1 => (by obtain ⟨ks, vs, rfl, q⟩ := q; exact ⟨ks, vs, M1, l, rm1, r1, q⟩)⟩) fun u s1 ⟨v, H1, I1, rv, ks, vs, M1, l1, rm1, r1, q⟩ => ?_)
  obtain ⟨a, es, rfl, ⟨h1, h2, ob, h3⟩, h4, h5, h6⟩ := Rep.dn_iff.mp r1
  obtain rfl : u = Value.ref a := rv
  obtain ⟨hs, ts, ep, hdt, hraw, hsz, ent⟩ := frzN I1.hok h3
  obtain ⟨oo, hgo, hex, hda⟩ := id hraw
  refine ⟨hraw.typeIs, fun b z => (by cases z; exact ⟨oo, hgo, hex.2.1⟩), ?_⟩
  have I2 : Inv X pins σ H1 { s1 with heap := s1.heap.push { cls := .type "dict_items", data := .fields #[.ref a] } } := I1.kept (t' := s1.toks) fun b ob q => Heap.get?_push_of_some _ q
  have fin0 := hq (zipD ks vs) M1 H1 (Itni X.w a ob es) q l1 rm1 (walks_nitems ⟨⟨h1, h2, h3⟩, h4, h5, h6⟩)
  have fin : wpAny (model X.prog X.w) X.A (pyIter (.ref s1.heap.objs.size)) (PIE X pins σ (.Tuple elts kk tpos) R) X.xe { s1 with heap := s1.heap.push { cls := .type "dict_items", data := .fields #[.ref a] } } := by
    refine wpAny_pyIter_items_raw (d := a) ⟨_, Heap.get?_push_size _ rfl, rfl, rfl⟩ (hraw.at fun o e => Heap.get?_push_of_some _ e) (pi_one (tk := s1.toks) I2 _ (turn_nitems _ hdt) ⟨.none, .none, ?_⟩ fin0)
    rw [hsz]
    exact Heap.get?_push_size _ rfl
  show wpAny _ _ (callWith cpos (.builtin "dict.items") [.ref a] [] []) _ X.xe s1
  exact method_meetsIn PySem.F.slot_dict_items PySem.F.entry_dict_items rfl (PySem.evalArgs_none ⟨rfl, hraw.typeIs, PySem.F.args_dict_items_1 _, _, meets_dict_items_raw a hs, ⟨ts, ep, hraw⟩, fin⟩)
/-! ### a locked dict with keys ints or texts -/
def keyDD : Key → D
  | .inl i => .int i
  | .inr x => .str x
theorem walks_lkeys {ks : List Key} {xs : List V} (h : M.m a = none ∧ ¬ M.s a ∧ H a = some (.frz ob (.dK (ks.zip xs)))) (hl : xs.length = ks.length) : Walks K M H (ks.map keyDD) (Itk a ob (ks.zip xs)) := fun M1 H1 l rm i => by
  have h1 := l _ _ h.1 h.2.1 h.2.2
  have hz : (ks.zip xs).length = ks.length := by rw [List.length_zip]; omega
  refine ⟨fun d hd => ?_, fun hi => ⟨h1.2.2, by rw [hz]; simpa using hi⟩⟩
  have hi := (List.getElem?_eq_some_iff.mp hd).1
  rw [List.length_map] at hi
  refine ⟨⟨h1.2.2, by rw [hz]; exact hi⟩, fun x H2 y => ?_⟩
  obtain ⟨rfl, k, v, hk, rfl⟩ := y
  rw [List.getElem?_zip_eq_some] at hk
  rw [List.getElem?_map, hk.1] at hd
  cases hd
  refine ⟨.refl, rm, ?_⟩
  cases k with
  | inl i => exact Rep.int_iff.mpr rfl
  | inr x => exact Rep.str_iff.mpr rfl
def iLkeys (te : DE) : DI := fun ds M Q => te ds M fun x M1 => match x with
  | .dcl ks vs => Q (ks.map keyDD) M1
  | _ => False
theorem i_lkeys (he : EE X M0 H0 e te) : EI X M0 H0 tg e (iLkeys te) := by
  refine pi_imp (pi_keys he) fun σ H R ⟨ds, M, Q', le, rm, rs, h, hq⟩ => ?_
  refine ⟨ds, M, _, le, rm, rs, h, fun d M1 v H1 q l1 rm1 r1 => ?_⟩
  cases d with
  | dcl ks vs =>
    obtain ⟨a, xs, rfl, ⟨h1, h2, ob, h3⟩, hl, r⟩ := Rep.dcl_iff.mp r1
    exact ⟨a, ob, rfl, .inl ⟨_, h3, hq _ M1 H1 _ q l1 rm1 (walks_lkeys ⟨h1, h2, h3⟩ hl)⟩⟩
  | _ => exact q.elim
end
end Lt
/-! dicts whose keys are tuples: != {}, comprehensions -/
namespace Lt
open PySem PySem.Spec PyProof.Rows L2
section
variable {prog : Program} {w : World} {A : PySem.Around} {E : Value → Shared → Prop} {s : Shared}
theorem same_empty {nm : String} {a b : Addr} {ts : Array DictEntry} {ep ep' : Nat} {Q : Bool → Shared → Prop} (ha : (a == sysModules) = false) (hb : (b == sysModules) = false)
    (da : s.heap.DictRaw a ts ep) (db : s.heap.DictRaw b #[] ep') (h : Q (ts.size == 0) s) :
    wpAny (model prog w) A (Builtin.Dict.samePairs nm a b) Q E s := by
  obtain ⟨oa, hoa, _, hda⟩ := da
  obtain ⟨ob, hob, _, hdb⟩ := db
  unfold Builtin.Dict.samePairs Builtin.Dict.showsAll
  rw [if_neg (show ¬ (a == sysModules) = true by rw [ha]; exact Bool.false_ne_true), if_neg (show ¬ (b == sysModules) = true by rw [hb]; exact Bool.false_ne_true)]
  refine wpAny_bind (wpAny_pure (wpAny_bind (wpAny_pure ?_)))
  refine wpAny_bind (wpAny_dictEntries hoa hda ?_)
  dsimp only
  refine wpAny_bind (wpAny_dictEntries hob hdb ?_)
  by_cases hsz : ts.size = (#[] : Array DictEntry).size
  case neg =>
    rw [if_pos (by simpa using hsz)]
    have hbf : (ts.size == 0) = false := by simpa using hsz
    rw [hbf] at h
    exact wpAny_bind (wpAny_rule (wpAny_pure h))
  case pos =>
    have h' : Q true s := by
      have e : (ts.size == 0) = true := by simpa using hsz
      rw [e] at h; exact h
    rw [if_neg (by rw [hsz]; simp)]
    refine wpAny_bind (wpAny_dictEpoch hoa hda ?_)
    refine wpAny_bind ?_
    rw [Std.Legacy.Range.forIn_eq_forIn_range']
    have e0 : ts.size = 0 := hsz
    simp only [Std.Legacy.Range.size, e0, Nat.sub_zero, Nat.add_sub_cancel, Nat.div_one]
    exact wpAny_pure (wpAny_pure h')
theorem ne_empty {a b : Addr} {ts : Array DictEntry} {ep ep' : Nat} {Q : Value → Shared → Prop} (ha : (a == sysModules) = false) (hb : (b == sysModules) = false)
    (da : s.heap.DictRaw a ts ep) (db : s.heap.DictRaw b #[] ep') (hu : A.units < cLine) (h : Q (.bool (!(ts.size == 0))) s) :
    wpAny (model prog w) A (compareOp .NotEq (.ref a) (.ref b)) Q E s := by
  refine wpAny_richCompare_same_room (op := .NotEq) da.typeIs db.typeIs PySem.F.slot_dict_ne (wpAny_call_entry PySem.F.slot_dict_ne da.typeIs PySem.F.entry_dict_ne ?_ (PySem.F.args_dict_ne_2 _ _)) hu
  show wpAny _ _ (Builtin.Dict.dictSlotArgs "__ne__" ⟨[.ref a, .ref b], []⟩ >>= _) _ _ s
  refine wpAny_bind ?_
  unfold Builtin.Dict.dictSlotArgs
  refine wpAny_bind (wpAny_notOrdered_dict da.typeIs ?_)
  show wpAny _ _ (pure (Value.ref a, Value.ref b)) _ _ s
  refine wpAny_pure ?_
  refine wpAny_bind (wpAny_isInstance (T := "dict") db.typeIs PySem.F.sub_dict_dict ?_)
  simp only [Bool.not_true, Bool.false_eq_true, if_false]
  refine wpAny_bind (wpAny_pure (wpAny_bind (wpAny_pure ?_)))
  refine wpAny_bind (same_empty ha hb da db ?_)
  refine wpAny_pure ⟨_, rfl, ?_, ?_⟩
  · exact fun x => nomatch x
  · simpa using h
theorem eq_empty {a b : Addr} {ts : Array DictEntry} {ep ep' : Nat} {Q : Value → Shared → Prop} (ha : (a == sysModules) = false) (hb : (b == sysModules) = false)
    (da : s.heap.DictRaw a ts ep) (db : s.heap.DictRaw b #[] ep') (hu : A.units < cLine) (h : Q (.bool (ts.size == 0)) s) :
    wpAny (model prog w) A (compareOp .Eq (.ref a) (.ref b)) Q E s := by
  refine wpAny_richCompare_same_room (op := .Eq) da.typeIs db.typeIs PySem.F.slot_dict_eq (wpAny_call_entry PySem.F.slot_dict_eq da.typeIs PySem.F.entry_dict_eq ?_ (PySem.F.args_dict_eq_2 _ _)) hu
  show wpAny _ _ (Builtin.Dict.dictSlotArgs "__eq__" ⟨[.ref a, .ref b], []⟩ >>= _) _ _ s
  refine wpAny_bind ?_
  unfold Builtin.Dict.dictSlotArgs
  refine wpAny_bind (wpAny_notOrdered_dict da.typeIs ?_)
  show wpAny _ _ (pure (Value.ref a, Value.ref b)) _ _ s
  refine wpAny_pure ?_
  refine wpAny_bind (wpAny_isInstance (T := "dict") db.typeIs PySem.F.sub_dict_dict ?_)
  simp only [Bool.not_true, Bool.false_eq_true, if_false]
  refine wpAny_bind (wpAny_pure (wpAny_bind (wpAny_pure ?_)))
  refine wpAny_bind (same_empty ha hb da db ?_)
  refine wpAny_pure ⟨_, rfl, ?_, ?_⟩
  · exact fun x => nomatch x
  · simpa using h
end
section
variable {X : Cx} {M0 : Wd} {H0 : Hp} {e f o : Expr} {te tx to : DE} {pos p2 : Pos} {w : World} {P : Program}
variable {K : PySem.W.Frag} {M W : Wd} {H : Hp} {pins : List (Addr × Obj)} {σ : L2.St} {s : Shared} {a d : Addr} {es : List Ent} {ks vs : List D} {ob : Obj} {tg : Expr} {ts : Array DictEntry} {ep : Nat} {v : V} {k : NestedKey} {y z : D}
/-- d != {}, d == {} -/
def dNempty (w : World) (ng : Bool) (te : DE) : DE := fun ds M Q => te ds M fun x M1 => ∃ ks vs, NdD w x M1 ks vs ∧ Q (.bl (ng != ks.isEmpty)) M1
theorem pc_nne (hu : X.A.units + 64 < cLine) (he : EE X M0 H0 e te) : PC X .NotEq e (.Dict [] [] p2) (lE X.K M0 H0 (dNempty X.w true te)) := by
  refine ⟨fun pins s σ H Q I ⟨ds, M, Q', le, rm, rs, h, hq⟩ => ?_⟩
  refine thn (he.run pins s σ H (fun v H1 => ∃ x M1, Le M H M1 H1 ∧ RelM X.K M1 H1 ∧ Rep X.K M1 H1 v x ∧ ∃ ks vs, NdD X.w x M1.m ks vs ∧ Q' (.bl (true != ks.isEmpty)) M1.m) I
    ⟨ds, M, _, le, rm, rs, h, fun d M1 v H1 q l rm1 r1 => ⟨d, M1, l, rm1, r1, q⟩⟩) fun u s1 ⟨v, H1, I1, rv, x, M1, l1, rm1, r1, ks, vs, n, q⟩ => thn (pe_dnewK.run pins s1 σ H1 (fun v H2 => ∃ p, v = .ref p ∧ H1 p = none ∧ H2 = upd H1 p (.dK [])) I1 fun p hp => ⟨p, rfl, hp, rfl⟩) fun u2 s2 ⟨v2, H2, I2, rv2, p, e2, hp, eH⟩ => ?_
  subst e2 eH
  obtain rfl : u2 = Value.ref p := rv2
  obtain ⟨a, es, n⟩ := n.get rm1 r1
  cases n.e
  obtain rfl : u = Value.ref a := rv
  have l2 : Le M1 H1 M1 (upd H1 p (.dK [])) := .new hp
  have n2 : NdV X.K M1 (upd H1 p (.dK [])) X.w (.ref a) a es ks vs := ⟨rfl, (by
    rcases n.rd with h | ⟨o, h⟩
    · exact .inl (by rw [upd_ne (ne_of_none h hp)]; exact h)
    · exact .inr ⟨o, by rw [upd_ne (ne_of_none h hp)]; exact h⟩), n.ek, n.rk.mono l2.w, n.rv.mono l2.w⟩
  obtain ⟨_, hd, xs, pr, dd⟩ := n2.dict I2
  obtain ⟨ts, ep, hraw, hsz, _⟩ := dd.raw
  obtain ⟨_, hd2, vs2, rel, dd2⟩ := dk_of I2.hok (upd_same (H := H1) (a := p))
  cases rel
  obtain ⟨ts2, ep2, hraw2, hsz2, _⟩ := dd2.raw
  have e2 : ts2 = #[] := Array.size_eq_zero_iff.mp hsz2
  subst e2
  have hl : (ts.size == 0) = ks.isEmpty := by
    have h1 : xs.length = es.length := (Paired.length pr).symm
    have h2 : es.length = ks.length := by have := congrArg List.length n.ek; simpa using this.symm
    rw [hsz, h1, h2]
    cases ks <;> rfl
  refine ne_empty hd hd2 hraw hraw2 (by omega) ?_
  rw [hl]
  exact ⟨.bl _, _, I2, rfl, by have := hq _ M1 _ _ q (l1.trans l2) (rm1.new hp) (Rep.bl_iff.mpr rfl); simpa using this⟩
theorem pc_neq (hu : X.A.units + 64 < cLine) (he : EE X M0 H0 e te) : PC X .Eq e (.Dict [] [] p2) (lE X.K M0 H0 (dNempty X.w false te)) := by
  refine ⟨fun pins s σ H Q I ⟨ds, M, Q', le, rm, rs, h, hq⟩ => ?_⟩
  refine thn (he.run pins s σ H (fun v H1 => ∃ x M1, Le M H M1 H1 ∧ RelM X.K M1 H1 ∧ Rep X.K M1 H1 v x ∧ ∃ ks vs, NdD X.w x M1.m ks vs ∧ Q' (.bl (false != ks.isEmpty)) M1.m) I
    ⟨ds, M, _, le, rm, rs, h, fun d M1 v H1 q l rm1 r1 => ⟨d, M1, l, rm1, r1, q⟩⟩) fun u s1 ⟨v, H1, I1, rv, x, M1, l1, rm1, r1, ks, vs, n, q⟩ => thn (pe_dnewK.run pins s1 σ H1 (fun v H2 => ∃ p, v = .ref p ∧ H1 p = none ∧ H2 = upd H1 p (.dK [])) I1 fun p hp => ⟨p, rfl, hp, rfl⟩) fun u2 s2 ⟨v2, H2, I2, rv2, p, e2, hp, eH⟩ => ?_
  subst e2 eH
  obtain rfl : u2 = Value.ref p := rv2
  obtain ⟨a, es, n⟩ := n.get rm1 r1
  cases n.e
  obtain rfl : u = Value.ref a := rv
  have l2 : Le M1 H1 M1 (upd H1 p (.dK [])) := .new hp
  have n2 : NdV X.K M1 (upd H1 p (.dK [])) X.w (.ref a) a es ks vs := ⟨rfl, (by
    rcases n.rd with h | ⟨o, h⟩
    · exact .inl (by rw [upd_ne (ne_of_none h hp)]; exact h)
    · exact .inr ⟨o, by rw [upd_ne (ne_of_none h hp)]; exact h⟩), n.ek, n.rk.mono l2.w, n.rv.mono l2.w⟩
  obtain ⟨_, hd, xs, pr, dd⟩ := n2.dict I2
  obtain ⟨ts, ep, hraw, hsz, _⟩ := dd.raw
  obtain ⟨_, hd2, vs2, rel, dd2⟩ := dk_of I2.hok (upd_same (H := H1) (a := p))
  cases rel
  obtain ⟨ts2, ep2, hraw2, hsz2, _⟩ := dd2.raw
  have e2 : ts2 = #[] := Array.size_eq_zero_iff.mp hsz2
  subst e2
  have hl : (ts.size == 0) = ks.isEmpty := by
    have h1 : xs.length = es.length := (Paired.length pr).symm
    have h2 : es.length = ks.length := by have := congrArg List.length n.ek; simpa using this.symm
    rw [hsz, h1, h2]
    cases ks <;> rfl
  refine eq_empty hd hd2 hraw hraw2 (by omega) ?_
  rw [hl]
  exact ⟨.bl _, _, I2, rfl, by have := hq _ M1 _ _ q (l1.trans l2) (rm1.new hp) (Rep.bl_iff.mpr rfl); simpa using this⟩
theorem dt_nne (hu : X.A.units + 64 < cLine) (he : EE X M0 H0 e te) (h1 : behindInMarks .NotEq (.Dict [] [] p2) = false := by rfl) : ET X M0 H0 (.Compare e [.NotEq] [.Dict [] [] p2] pos) (dB (dNempty X.w true te)) := pt_imp (pt_cmp (pc_nne hu he) h1) fun σ H Q h => dB_ok h
theorem dt_neq (hu : X.A.units + 64 < cLine) (he : EE X M0 H0 e te) (h1 : behindInMarks .Eq (.Dict [] [] p2) = false := by rfl) : ET X M0 H0 (.Compare e [.Eq] [.Dict [] [] p2] pos) (dB (dNempty X.w false te)) := pt_imp (pt_cmp (pc_neq hu he) h1) fun σ H Q h => dB_ok h
end
end Lt
/-! calls with a keyword-only parameter -/
namespace Lt
open PySem PySem.Spec PyProof.Rows L2
/-- a def with keyword-only parameters ks, no defaults; n the others -/
structure CalleeK (P : Program) (w : World) (K : PySem.W.Frag) (mg : Str → Option Value) (base : Heap) (x : Str) (k : Nat) (ps : List Str) (n : Nat) (ks : List Str) (sp : DSp) : Prop where
  ex : ∃ f fd, FnOk P w K mg base (CX P w) k f fd ps (lSp K sp) ∧ mg x = some (.ref f) ∧ PySem.W.keepIn K (.ref f) = true ∧ KBn K fd ps n ks (fun us ws => us ++ ws) (fun vs zs => vs ++ zs)
section
variable {X : Cx} {M0 : Wd} {H0 : Hp} {e kx : Expr} {es : List Expr} {ts : DA} {te : DE} {pos p kpos : Pos} {k n : Nat} {ps : List Str} {sp : DSp}
/-- f(e, .., key = v) -/
def dCallK (n : Nat) (sp : DSp) (E' : XD) (t : DA) (te : DE) : DE := fun ds M Q => t ds M fun xs M1 => te ds M1 fun y M2 => xs.length = n ∧ sp (xs ++ [y]) M2 Q E'
theorem d_callK {x key : Str} {E' : XD} (C : CalleeK X.prog X.w X.K X.mg X.base x k ps n [key] sp) (hr : Room k X.A) (hg : Gl X x) (tk : DWish X M0 H0 E') (ha : EA X M0 H0 (e :: es) ts) (hk : EE X M0 H0 kx te)
    (hall : (backToKw pos (keywordEach [⟨some key, kx, kpos⟩] X.env)).all (·.1.isSome) = true := by rfl) (hks : (backToKw pos (keywordEach [⟨some key, kx, kpos⟩] X.env)).filterMap (·.1) = [key] := by rfl)
    (hdb : (x == ("__debug__" : Str)) = false := by decide) (he : starEach (e :: es) X.env = (false, eval e X.env) :: starEach es X.env := by rfl)
    (hpl : ((backTo pos (starEach (e :: es) X.env)).any (·.1) || (backToKw pos (keywordEach [⟨some key, kx, kpos⟩] X.env)).any (·.1.isNone)) = false := by rfl) :
    EE X M0 H0 (.Call (.Name x p) (e :: es) [⟨some key, kx, kpos⟩] pos) (dCallK n sp E' ts te) := by
  obtain ⟨f, fd, F, hm, hkp, hb⟩ := C.ex
  refine pe_imp (pe_callN F hr hg hm hkp hb tk.passes ha (pk_cons hk pk_nil) hall hks hdb he hpl) fun σ H Q ⟨ds, M, Q', le, rm, rs, h, hq⟩ => ?_
  refine ⟨ds, M, _, le, rm, rs, h, fun xs M1 vs H1 q l rm1 r1 => ?_⟩
  refine ⟨ds, M1, _, le.trans l, rm1, rs.mono l.w, q, fun y M2 vy H2 q l2 rm2 r2 => ?_⟩
  refine ⟨r1.len.trans q.1, rfl, ?_⟩
  exact lSp_of ((le.trans l).trans l2) rm2 ((r1.mono l2.w).append (.cons r2 .nil)) q.2 fun d M' v H' q' l' => hq d M' v H' q' ((l.trans l2).trans l')
end
theorem callee_mkK {P : Program} {w : World} {K : PySem.W.Frag} {mg : Str → Option Value} {base : Heap} {x qual : Str} {st : Stmt} {f : Addr} {fd : FuncData} {N ps ks : List Str} {k n : Nat} {sp : DSp} (F : Fun K x qual st f fd) (hmg : mg x = some (.ref f)) (S : FnScope N ps (defScope st))
    (hb : ∀ (kV doc pm : Value) (an : Option Addr) (cdv ct : Value) (us ws : List Value), us.length = n → ws.length = ks.length → bindArgs (PySem.W.fnOf x qual (defArgs st) (defBody st) (defScope st) .none kV doc pm an cdv ct) ⟨us, ks.zip ws⟩ = pure (ps.zip (us ++ ws)))
    (len : ∀ xs M Q E, sp xs M Q E → xs.length = ps.length)
    (hbody : ∀ (cdv : Value) (A : PySem.Around) (outer : List Env) (s : Shared) (HH : Hp) (EE : XK) (M0 : Wd) (xs : List D) (M : Mp) (Q : DK) (E : XD), Room k (A.deeper (envOfC qual (defScope st) s.heap.objs.size f cdv)) →
      DWish (cxOf (CX P w) P w K mg base N qual (defScope st) f cdv A outer s HH EE) M0 HH E → sp xs M Q E →
      ∃ t, EB (cxOf (CX P w) P w K mg base N qual (defScope st) f cdv A outer s HH EE) M0 HH (defBody st) t ∧ t { nx := fun _ M' => Q .non M', rt := Q } (xs.map some ++ List.replicate (N.length - xs.length) none) M) : CalleeK P w K mg base x (k + 1) ps n ks sp := by
  refine ⟨f, fd, ?_, hmg, F.kp, ?_⟩
  · refine F.okX S (fun vs H Q E ⟨xs, M, Q', E', rm, r, h, _⟩ => by rw [r.len]; exact len _ _ _ _ h) fun cdv A outer s H vs Q E hr ⟨xs, M, Q', E', rm, r, h, hq, he⟩ => ?_
    have tk : DWish (cxOf (CX P w) P w K mg base N qual (defScope st) f cdv A outer s H E) M H E' := Takes.imp (takes_of rfl rfl rfl rfl) fun cls dd σ H' ⟨pl, M', e, l, rm', p⟩ => he cls pl M' H' dd e l rm' p
    obtain ⟨t, ht, hs⟩ := hbody cdv A outer s H E M xs M.m Q' E' hr tk h
    refine ⟨_, ht, ?_⟩
    refine ⟨_, M, _, .refl, rm, ?_, hs, ⟨fun ds' M' σ' H' q l rm' rs => hq _ M' _ _ q l rm' (Rep.non_iff.mpr rfl), fun d M' v H' q l rm' r' => hq _ M' _ _ q l rm' r', fun _ _ _ _ q => q.elim, fun _ _ _ _ q => q.elim⟩⟩
    unfold L2.start
    rw [r.len]
    exact RelS.append r.slots (RelS.repl _)
  · obtain ⟨oc, od, kV, doc, pm, an, cdv, ct, osl, rfl, lk, hcd⟩ := F.ex
    exact ⟨fun s us ws _ h1 h2 => .of_eq (hb kV doc pm an cdv ct us ws h1 h2), fun r1 r2 => r1.append r2⟩
end Lt
/-! min, max of one list -/
namespace Lt
open PySem PySem.Spec PyProof.Rows L2
section
variable {X : Cx}
def cMin1 : List D → Mp → DK → Prop := fun xs M Q => match xs with | [.lst ds] => ∃ ns : List Int, ds = ns.map D.int ∧ 0 < ns.length ∧ ∀ m, m ∈ ns → (∀ y, y ∈ ns → m ≤ y) → Q (.int m) M | _ => False
def cMax1 : List D → Mp → DK → Prop := fun xs M Q => match xs with | [.lst ds] => ∃ ns : List Int, ds = ns.map D.int ∧ 0 < ns.length ∧ ∀ m, m ∈ ns → (∀ y, y ∈ ns → y ≤ m) → Q (.int m) M | _ => False
theorem c_min1 (hc : X.calm = true) : CallD X (.builtin "min") cMin1 := by
  refine ⟨_, cr_min hc, fun xs M H Q' Q vs rm rr q hq => ?_⟩
  unfold cMin1 at q
  split at q
  · obtain ⟨v, rfl, r⟩ := rep1 rr
    obtain ⟨bs, rfl, hn, q⟩ := q
    obtain ⟨p, ys, rfl, hp, r⟩ := Rep.lst_iff.mp r
    exact ⟨p, bs, rfl, by rw [← r.ints]; exact hp.sq, hn, fun m h1 h2 => hq _ M _ _ (q m h1 h2) .refl rm (Rep.int_iff.mpr rfl)⟩
  · exact q.elim
theorem c_max1 (hc : X.calm = true) : CallD X (.builtin "max") cMax1 := by
  refine ⟨_, cr_max hc, fun xs M H Q' Q vs rm rr q hq => ?_⟩
  unfold cMax1 at q
  split at q
  · obtain ⟨v, rfl, r⟩ := rep1 rr
    obtain ⟨bs, rfl, hn, q⟩ := q
    obtain ⟨p, ys, rfl, hp, r⟩ := Rep.lst_iff.mp r
    exact ⟨p, bs, rfl, by rw [← r.ints]; exact hp.sq, hn, fun m h1 h2 => hq _ M _ _ (q m h1 h2) .refl rm (Rep.int_iff.mpr rfl)⟩
  · exact q.elim
/-- x = [..], a list that may change -/
theorem s_setLcM {i : Nat} {y : Str} {py : Pos} {elt tg iter : Expr} {ifs : List Expr} {scope : Scope} {own : List (Str × Nat)} {spos : Pos} {wi : DI} {g : Tg} {tt : DT} {te : DE} (hc : X.calm = true) (hN : X.N.Nodup) (hy : X.N[i]? = some y) (hyl : X.env.scope.names.lookup y = some .local)
    (hsw : swapsWith (.ListComp elt [⟨tg, iter, ifs, 0⟩] scope pos) (some (.Name y py)) spos.line X.env = pure true) (hi : EI X M0 H0 tg iter wi) (ok : BlkOk X.N X.env.scope scope own)
    (hg : ∀ (s : Shared) (H : Hp) (C : Addr) (cl : List (Str × Addr)) (fp : List Addr), EG (X.blk s H scope (compEnvC scope cl C X.env) fp) tg g)
    (ht : ∀ (M0 : Wd) (H0 : Hp) (s : Shared) (H : Hp) (C : Addr) (cl : List (Str × Addr)) (fp : List Addr), ETs (X.blk s H scope (compEnvC scope cl C X.env) fp) M0 H0 ifs tt)
    (he : ∀ (M0 : Wd) (H0 : Hp) (s : Shared) (H : Hp) (C : Addr) (cl : List (Str × Addr)) (fp : List Addr), EE (X.blk s H scope (compEnvC scope cl C X.env) fp) M0 H0 elt te)
    (ho : ∀ i ∈ g.slots, i ∈ own.map (·.2) := by decide) (hs : ∀ x, foldedSetIterable iter X.env x = pure x := by intro _; rfl) :
    ES X M0 H0 (.Assign [.Name y py] (.ListComp elt [⟨tg, iter, ifs, 0⟩] scope pos) spos) (sSet i (dLcM wi g tt te (own.map (·.2)))) := by
  refine ps_imp (ps_setLc (g := hTg X.K g) hc hN hy hyl hsw hi ok hg (fun s H C cl fp => pts_ex (t := fun B : Wd × Hp => lT X.K B.1 B.2 tt) fun B => ht B.1 B.2 s H C cl fp) (fun s H C cl fp => pe_ex (t := fun B : Wd × Hp => lE X.K B.1 B.2 te) fun B => he B.1 B.2 s H C cl fp) hs) fun D σ H ⟨ds, M, D', le, rm, rs, h, hq⟩ => ?_
  exact tLcM_l ho ⟨ds, M, _, le, rm, rs, h, fun d M' v H' q l rm' r' => hq.nx _ M' _ _ q l rm' ((rs.mono l.w).set i r')⟩
end
end Lt
/-! tuple * 0, tuple * 1 -/
namespace Lt
open PySem PySem.Spec PyProof.Rows L2
theorem tuple_mul1 (l : Addr) (items : Array Value) (n : Nat) (dd : Option Addr) (sl : Array (Option Value)) (x : Int) (u : Tok) (c0 : (decide (x < -(2 ^ 63)) || decide (x ≥ 2 ^ 63)) = false) (c1 : (items.isEmpty || x == 1) = true) :
    Meets (Builtin.«tuple.__mul__» ⟨[.ref l, .int x u], []⟩) (fun _ R s => s.heap.get? l = some { cls := .type "tuple", dict := dd, data := .seq items n, slots := sl } ∧
      R (.ok (.ret (Value.ref l))) { s with heap := s.heap, toks := s.toks }) :=
  .of_wp fun prog w A R s h => by
    obtain ⟨hp, g, d, tk, os⟩ := s
    obtain ⟨hl, h⟩ := h
    have f1 := AutoSeq1.idx_int
    wp_walk using wpAny_loadPart' hl
    repeat (first
      | (refine wpAny_ite_false (decide_eq_false (by rw [c0]; exact Bool.false_ne_true)) ?_; wp_walk using wpAny_loadPart' hl)
      | (refine wpAny_ite_true (decide_eq_true (by rw [c1])) ?_; wp_walk using wpAny_loadPart' hl))
    exact ⟨_, rfl, h⟩
theorem tuple_mul0 (l : Addr) (items : Array Value) (n : Nat) (dd : Option Addr) (sl : Array (Option Value)) (x : Int) (u : Tok) (c0 : (decide (x < -(2 ^ 63)) || decide (x ≥ 2 ^ 63)) = false) (c1 : (items.isEmpty || x == 1) = false) (c2 : (decide (x ≤ 0) || items.isEmpty) = true) :
    Meets (Builtin.«tuple.__mul__» ⟨[.ref l, .int x u], []⟩) (fun _ R s => s.heap.get? l = some { cls := .type "tuple", dict := dd, data := .seq items n, slots := sl } ∧
      R (.ok (.ret (Value.ref s.heap.objs.size))) { s with heap := s.heap.push { cls := Value.type "tuple", data := Data.seq #[] }, toks := s.toks }) :=
  .of_wp fun prog w A R s h => by
    obtain ⟨hp, g, d, tk, os⟩ := s
    obtain ⟨hl, h⟩ := h
    have f1 := AutoSeq1.idx_int
    wp_walk using wpAny_loadPart' hl
    repeat (first
      | (refine wpAny_ite_false (decide_eq_false (by rw [c0]; exact Bool.false_ne_true)) ?_; wp_walk using wpAny_loadPart' hl)
      | (refine wpAny_ite_false (decide_eq_false (by rw [c1]; exact Bool.false_ne_true)) ?_; wp_walk using wpAny_loadPart' hl)
      | (refine wpAny_ite_true (decide_eq_true (by rw [c2])) ?_; wp_walk using wpAny_loadPart' hl))
    exact ⟨_, rfl, h⟩
section
variable {X : Cx}
def rRepT1 (K : PySem.W.Frag) : R2 := fun x y H Q => ∃ l k xs, x = .ref l ∧ y = .int k ∧ (xs = [] ∨ k = 1) ∧ 0 ≤ k ∧ k ≤ 1000 ∧ SqT K H l xs ∧ Q (.ref l) H
theorem op_repT1 : OpR X (binaryOp .Mult) (rRepT1 X.K) := by
  intro pins s σ H x y v u Q I rx ry h
  obtain ⟨l, k, xs, rfl, rfl, hk, k0, k1, hT, q⟩ := h
  cases rx
  obtain ⟨t, rfl⟩ := ry
  obtain ⟨its, r, ⟨⟨cls, dd, data, sl⟩, ho, hc, n, hd⟩, hs⟩ := I.tuple hT
  simp only at hc hd
  subst hc hd
  have hle : its.length = xs.length := r.length.symm
  have c1 : (its.toArray.isEmpty || k == 1) = true := by
    rw [Bool.or_eq_true]
    rcases hk with rfl | rfl
    · left
      rw [List.eq_nil_of_length_eq_zero (l := its) hle]; rfl
    · exact .inr (by decide)
  have c0 : (decide (k < -(2 ^ 63)) || decide (k ≥ 2 ^ 63)) = false := by
    rw [decide_eq_false (by omega), decide_eq_false (by omega)] <;> rfl
  refine wpAny_binaryOp_repeat_ref (T := "tuple") (U := "int") (by decide) ⟨_, ho, rfl⟩ (fun s' => typeIs_int s' k t) noFill_tuple_mul F.fills_int_mul F.slot_int_rmul repeat_tuple F.slot_int_index.lookup
    (call_meets F.slot_int_rmul (typeIs_int s k t) F.entry_int_rmul (F.args_int_rmul_2 _ _) (int_rmul_tuple k t l its.toArray n dd sl)
      ⟨ho, rfl, ⟨_, ho, rfl⟩, call_meets F.slot_tuple_mul ⟨_, ho, rfl⟩ F.entry_tuple_mul (F.args_tuple_mul_2 _ _) (tuple_mul1 l its.toArray n dd sl k t c0 c1) ⟨ho, ?_⟩⟩)
  exact ⟨.ref l, H, I, rfl, q⟩
def rRepT0 (K : PySem.W.Frag) : R2 := fun x y H Q => ∃ l xs, x = .ref l ∧ y = .int 0 ∧ xs ≠ [] ∧ SqT K H l xs ∧ ∀ p, H p = none → Q (.ref p) (upd H p (.tup []))
theorem op_repT0 : OpR X (binaryOp .Mult) (rRepT0 X.K) := by
  intro pins s σ H x y v u Q I rx ry h
  obtain ⟨l, xs, rfl, rfl, hne, hT, q⟩ := h
  cases rx
  obtain ⟨t, rfl⟩ := ry
  obtain ⟨its, r, ⟨⟨cls, dd, data, sl⟩, ho, hc, n, hd⟩, hs⟩ := I.tuple hT
  simp only at hc hd
  subst hc hd
  have hle : its.length = xs.length := r.length.symm
  have hn : its ≠ [] := fun e => hne (by
    rw [e] at hle
    exact List.eq_nil_of_length_eq_zero hle.symm)
  have hi : its.toArray.isEmpty = false := by
    cases its with
    | nil => exact absurd rfl hn
    | cons a b => rfl
  refine wpAny_binaryOp_repeat_ref (T := "tuple") (U := "int") (by decide) ⟨_, ho, rfl⟩ (fun s' => typeIs_int s' 0 t) noFill_tuple_mul F.fills_int_mul F.slot_int_rmul repeat_tuple F.slot_int_index.lookup
    (call_meets F.slot_int_rmul (typeIs_int s 0 t) F.entry_int_rmul (F.args_int_rmul_2 _ _) (int_rmul_tuple 0 t l its.toArray n dd sl)
      ⟨ho, rfl, ⟨_, ho, rfl⟩, call_meets F.slot_tuple_mul ⟨_, ho, rfl⟩ F.entry_tuple_mul (F.args_tuple_mul_2 _ _) (tuple_mul0 l its.toArray n dd sl 0 t (by decide) (by rw [hi]; decide) (by rw [hi]; decide)) ⟨ho, ?_⟩⟩)
  refine ⟨.ref s.heap.objs.size, _, I.laid (t' := s.toks) (o := .tup []) (fun b ob q => Heap.get?_push_of_some _ q) (Nat.le_refl _) ?_, rfl, q _ (I.hok.fresh (Nat.le_refl _))⟩
  exact ⟨Nat.zero_le _, [], .nil, IsTup.new _ _⟩
/-- tuple * n, from 0 on -/
def rMulT : DR := fun x y M Q => match x, y with
  | .tup xs, .int k => 0 ≤ k ∧ k ≤ 1000 ∧ xs.length ≤ 1000 ∧ Q (.tup (List.replicate k.toNat xs).flatten) M
  | _, _ => False
theorem flat_nil {α : Type} : ∀ n : Nat, (List.replicate n ([] : List α)).flatten = []
  | 0 => rfl
  | n + 1 => by rw [List.replicate_succ, List.flatten_cons, flat_nil n]; rfl
theorem o_mulT : OpD X (binaryOp .Mult) rMulT := by
  refine ⟨_, OpR.or op_repT (OpR.or op_repT1 op_repT0), fun x y M H Q' Q u v rm ru rv q hq => ?_⟩
  unfold rMulT at q
  split at q
  · obtain ⟨a, xs, rfl, ha, ra⟩ := Rep.tup_iff.mp ru
    rw [Rep.int_iff] at rv
    obtain ⟨q2, q3, q4, q5⟩ := q
    rename_i ys k
    have hl := ra.len
    by_cases hne : xs = []
    · subst hne
      have : ys = [] := List.eq_nil_of_length_eq_zero (by rw [← hl]; rfl)
      subst this
      rw [flat_nil] at q5
      exact .inr (.inl ⟨a, k, [], rfl, rv, .inl rfl, q2, q3, ha.sq, hq _ M _ _ q5 .refl rm ru⟩)
    by_cases k0 : k = 0
    · subst k0
      refine .inr (.inr ⟨a, xs, rfl, rv, hne, ha.sq, fun p hp => hq _ M _ _ q5 (.new hp) (rm.new hp) (.tupN rm hp .nil)⟩)
    · by_cases k1 : k = 1
      · subst k1
        have e : (List.replicate (1 : Int).toNat ys).flatten = ys := by
          show (List.replicate 1 ys).flatten = ys
          simp
        rw [e] at q5
        exact .inr (.inl ⟨a, 1, xs, rfl, rv, .inr rfl, by decide, by decide, ha.sq, hq _ M _ _ q5 .refl rm ru⟩)
      · exact .inl ⟨a, _, xs, rfl, rv, ha.sq, hne, by omega, q3, by rw [hl]; exact q4, fun p hp => hq _ M _ _ q5 (.new hp) (rm.new hp) (.tupN rm hp (ra.rep _))⟩
  · exact q.elim
end
end Lt
/-! list(range(a, b)) -/
namespace Lt
open PySem PySem.Spec PyProof.Rows L2
section
variable {X : Cx} {M0 : Wd} {H0 : Hp} {a b : Expr} {ta tb : DE} {p p2 pos pos2 : Pos}
theorem reps_rg {K : PySem.W.Frag} {M : Wd} {H : Hp} (a : Int) : ∀ l : List Nat, Reps K M H (l.map fun (i : Nat) => V.int (a + (i : Int))) (l.map fun (i : Nat) => D.int (a + (i : Int)))
  | [] => .nil
  | i :: l => by
    rw [List.map_cons, List.map_cons]
    unfold Reps
    exact ⟨Rep.int_iff.mpr rfl, reps_rg a l⟩
def dListRg2 (ta tb : DE) : DE := fun ds M Q => ta ds M fun x M1 => tb ds M1 fun y M2 => match x, y with
  | .int i, .int j => RgOk i j ∧ Q (.lst (rangeD i (j - i).toNat)) M2
  | _, _ => False
theorem d_listRg2 (hc : X.calm = true) (hg : Gl X "list") (hm : X.mg "list" = none) (hgr : Gl X "range") (hmr : X.mg "range" = none) (ha : EE X M0 H0 a ta) (hb : EE X M0 H0 b tb) (na : starEach [a, b] X.env = (false, eval a X.env) :: starEach [b] X.env := by rfl)
    (nb : starEach [b] X.env = (false, eval b X.env) :: starEach [] X.env := by rfl) (hp : (backTo pos2 (starEach [b] X.env)).any (·.1) = false := by rfl) (ne : starEach [.Call (.Name "range" p2) [a, b] [] pos2] X.env = (false, eval (.Call (.Name "range" p2) [a, b] [] pos2) X.env) :: starEach [] X.env := by rfl) :
    EE X M0 H0 (.Call (.Name "list" p) [.Call (.Name "range" p2) [a, b] [] pos2] [] pos) (dListRg2 ta tb) := by
  refine pe_imp (pe_listRg hc hg hm (prg_2 hgr hmr ha hb na nb hp) ne) fun σ H Q ⟨ds, M, Q', le, rm, rs, h, hq⟩ => ?_
  refine ⟨ds, M, _, le, rm, rs, h, fun d M1 v H1 q l rm1 r1 => ?_⟩
  refine ⟨ds, M1, _, le.trans l, rm1, rs.mono l.w, q, fun d2 M2 v2 H2 q l2 rm2 r2 => ?_⟩
  cases d with
  | int i =>
    cases d2 with
    | int j =>
      rw [Rep.int_iff] at r1 r2
      exact ⟨i, j, r1, r2, q.1, fun z hz => hq _ M2 _ _ q.2 ((l.trans l2).trans (.new hz)) (rm2.new hz) (.lstN rm2 hz (reps_rg i _))⟩
    | _ => exact q.elim
  | _ => exact q.elim
def dListRg2M (ta tb : DE) : DE := fun ds M Q => ta ds M fun x M1 => tb ds M1 fun y M2 => match x, y with
  | .int i, .int j => RgOk i j ∧ ∀ p, M2 p = none → Q (.ref p) (mup M2 p (.lst (rangeD i (j - i).toNat)))
  | _, _ => False
theorem d_listRg2M (hc : X.calm = true) (hg : Gl X "list") (hm : X.mg "list" = none) (hgr : Gl X "range") (hmr : X.mg "range" = none) (ha : EE X M0 H0 a ta) (hb : EE X M0 H0 b tb) (na : starEach [a, b] X.env = (false, eval a X.env) :: starEach [b] X.env := by rfl)
    (nb : starEach [b] X.env = (false, eval b X.env) :: starEach [] X.env := by rfl) (hp : (backTo pos2 (starEach [b] X.env)).any (·.1) = false := by rfl) (ne : starEach [.Call (.Name "range" p2) [a, b] [] pos2] X.env = (false, eval (.Call (.Name "range" p2) [a, b] [] pos2) X.env) :: starEach [] X.env := by rfl) :
    EE X M0 H0 (.Call (.Name "list" p) [.Call (.Name "range" p2) [a, b] [] pos2] [] pos) (dListRg2M ta tb) := by
  refine pe_imp (pe_listRg hc hg hm (prg_2 hgr hmr ha hb na nb hp) ne) fun σ H Q ⟨ds, M, Q', le, rm, rs, h, hq⟩ => ?_
  refine ⟨ds, M, _, le, rm, rs, h, fun d M1 v H1 q l rm1 r1 => ?_⟩
  refine ⟨ds, M1, _, le.trans l, rm1, rs.mono l.w, q, fun d2 M2 v2 H2 q l2 rm2 r2 => ?_⟩
  cases d with
  | int i =>
    cases d2 with
    | int j =>
      rw [Rep.int_iff] at r1 r2
      refine ⟨i, j, r1, r2, q.1, fun z hz => ?_⟩
      have ln := Le.newM (o := .lst (rgV i j)) (mo := .lst (rangeD i (j - i).toNat)) rm2 hz
      exact hq _ ⟨mup M2.m z (.lst (rangeD i (j - i).toNat)), M2.s⟩ _ _ (q.2 z (rm2.free hz)) ((l.trans l2).trans ln) (rm2.newM hz ⟨rgV i j, upd_same, reps_rg i _⟩) (Rep.ref_iff.mpr rfl)
    | _ => exact q.elim
  | _ => exact q.elim
/-- is True, is False -/
def rIsBD : DR := fun x y M Q => match x, y with
  | .bl a, .bl b => Q (.bl (decide (a = b))) M
  | _, _ => False
theorem o_isB : OpD X (compareOp .Is) rIsBD := by
  refine ⟨_, op_is_bl, fun x y M H Q' Q u v rm ru rv q hq => ?_⟩
  unfold rIsBD at q
  split at q
  · rw [Rep.bl_iff] at ru rv
    exact ⟨_, _, ru, rv, hq _ M _ _ q .refl rm (Rep.bl_iff.mpr rfl)⟩
  · exact q.elim
end
end Lt
namespace Lt
open PySem PySem.Spec PyProof.Rows L2
abbrev tab_TRIGGERS : List (Str × D) := [("c", .int 1), ("s", .int 0), ("f", .int 1), ("t", .int 0)]
abbrev tab_WRITTEN_BITS : List (Str × D) := [("c", .int 0), ("s", .int 1), ("f", .int 1), ("t", .int 0)]
abbrev tab_PARTNERS : List (Str × D) := [("c", .str "s"), ("s", .str "c"), ("f", .str "t"), ("t", .str "f")]
/-! #### is_integer -/
/-- what is_integer tells -/
def leB : D → Int → Bool
  | .int l, i => decide (l ≤ i)
  | _, _ => true
def geB : D → Int → Bool
  | .int l, i => decide (i ≤ l)
  | _, _ => true
def isIntD : D → D → D → Bool
  | .int i, lo, hi => leB lo i && geB hi i
  | _, _, _ => false
def isBd : D → Prop
  | .non => True
  | .int _ => True
  | _ => False
def sp_is_integer : DSp := fun xs M Q _ => ∃ d lo hi, xs = [d, lo, hi] ∧ (tyD M d).isSome = true ∧ isBd lo ∧ isBd hi ∧ Q (.bl (isIntD d lo hi)) M
theorem len_is_integer (xs : List D) (M : Mp) (Q : DK) (E : XD) : sp_is_integer xs M Q E → xs.length = 3 := by
  rintro ⟨_, _, _, rfl, _⟩; rfl
/-! #### is_mask -/
def isMaskD : D → Bool
  | .str z => (tab_TRIGGERS.lookup z).isSome
  | _ => false
def sp_is_mask : DSp := fun xs M Q _ => ∃ d, xs = [d] ∧ (tyD M d).isSome = true ∧ Q (.bl (isMaskD d)) M
theorem len_is_mask (xs : List D) (M : Mp) (Q : DK) (E : XD) : sp_is_mask xs M Q E → xs.length = 1 := by
  rintro ⟨_, rfl, _⟩; rfl
/-! #### is_step -/
def isStepD (d : D) : Bool := isIntD d .non .non || isMaskD d
def sp_is_step : DSp := fun xs M Q _ => ∃ d, xs = [d] ∧ (tyD M d).isSome = true ∧ Q (.bl (isStepD d)) M
theorem len_is_step (xs : List D) (M : Mp) (Q : DK) (E : XD) : sp_is_step xs M Q E → xs.length = 1 := by
  rintro ⟨_, rfl, _⟩; rfl
/-! #### need_number -/
def sp_need_number (C : Addr) : DSp := fun xs M Q E => ∃ d, xs = [d] ∧ (tyD M d).isSome = true ∧ (isIntD d .non .non = true → Q .non M) ∧ (isIntD d .non .non = false → E (.ref C) none M)
theorem len_need_number {C : Addr} (xs : List D) (M : Mp) (Q : DK) (E : XD) : sp_need_number C xs M Q E → xs.length = 1 := by
  rintro ⟨_, rfl, _⟩; rfl
/-! #### number_after -/
def sp_number_after : DSp := fun xs M Q _ => ∃ n st, xs = [.int n, Stp.d st] ∧ Q (.int (st.ap n)) M
theorem len_number_after (xs : List D) (M : Mp) (Q : DK) (E : XD) : sp_number_after xs M Q E → xs.length = 2 := by
  rintro ⟨_, _, rfl, _⟩; rfl
/-! #### stepped -/
theorem isStep_d (st : Stp) : isStepD st.d = true := by
  match st with
  | .add k => rfl
  | .mk .c => decide
  | .mk .s => decide
  | .mk .f => decide
  | .mk .t => decide
theorem stp_of {d : D} (h : isStepD d = true) : ∃ st : Stp, d = st.d := by
  cases d with
  | int i => exact ⟨.add i, rfl⟩
  | str z =>
    have h : (tab_TRIGGERS.lookup z).isSome = true := by simpa [isStepD, isIntD, isMaskD] using h
    by_cases e1 : z = "c"
    · exact ⟨.mk .c, by rw [e1]; rfl⟩
    by_cases e2 : z = "s"
    · exact ⟨.mk .s, by rw [e2]; rfl⟩
    by_cases e3 : z = "f"
    · exact ⟨.mk .f, by rw [e3]; rfl⟩
    by_cases e4 : z = "t"
    · exact ⟨.mk .t, by rw [e4]; rfl⟩
    · simp [tab_TRIGGERS, List.lookup, beq_eq_false_iff_ne.mpr e1, beq_eq_false_iff_ne.mpr e2, beq_eq_false_iff_ne.mpr e3, beq_eq_false_iff_ne.mpr e4] at h
  | _ => simp [isStepD, isIntD, isMaskD] at h
structure sp_stepped (C1 C2 : Addr) (xs : List D) (M : Mp) (Q : DK) (E : XD) : Prop where
  ex : ∃ d e, xs = [d, e] ∧ (tyD M d).isSome = true ∧ (tyD M e).isSome = true ∧
  (∀ n st, d = .int n → e = Stp.d st → Q (.int (st.ap n)) M) ∧ (isIntD d .non .non = false → E (.ref C1) none M) ∧ (isIntD d .non .non = true → isStepD e = false → E (.ref C2) none M)
theorem len_stepped {C1 C2 : Addr} (xs : List D) (M : Mp) (Q : DK) (E : XD) : sp_stepped C1 C2 xs M Q E → xs.length = 2 := by
  rintro ⟨_, _, rfl, _⟩; rfl
theorem int_of {d : D} (h : isIntD d .non .non = true) : ∃ n, d = .int n := by
  cases d with
  | int i => exact ⟨i, rfl⟩
  | _ => simp [isIntD] at h
theorem Stp.d_inj {a b : Stp} (h : a.d = b.d) : a = b := by
  cases a with
  | add k =>
    cases b with
    | add k' => injection h with e; rw [e]
    | mk m' => injection h
  | mk m =>
    cases b with
    | add k' => injection h
    | mk m' =>
      injection h with e
      cases m <;> cases m' <;> first | rfl | (exact absurd e (by decide))
theorem sp_stepped_ok {C1 C2 : Addr} {n : Int} {st : Stp} {M : Mp} {Q : DK} {E : XD} (q : Q (.int (st.ap n)) M) : sp_stepped C1 C2 [.int n, st.d] M Q E := by
  refine ⟨_, _, rfl, rfl, by match st with | .add k => rfl | .mk m => rfl, fun n' st' e1 e2 => ?_, fun h => by simp [isIntD, leB, geB] at h, fun _ h => by rw [isStep_d] at h; cases h⟩
  have e3 : st = st' := Stp.d_inj e2
  injection e1 with e1
  subst e1 e3
  exact q
/-! #### is_steps -/
/-- any value that may be asked for steps -/
def okT (M : Mp) (d : D) : Prop := (tyD M d).isSome = true ∧ ∀ ds, d = .tup ds → ds.length ≤ 1000000 ∧ ∀ x ∈ ds, (tyD M x).isSome = true
def isStepsD : D → Bool
  | .tup ds => ds.all isStepD
  | _ => false
/-- steps as data -/
def stD (l : List Stp) : D := .tup (l.map Stp.d)
theorem okT_st {M : Mp} {l : List Stp} (h : l.length ≤ 1000000) : okT M (stD l) := by
  refine ⟨rfl, fun ds e => ?_⟩
  cases e
  refine ⟨by rw [List.length_map]; exact h, fun x hx => ?_⟩
  obtain ⟨st, _, rfl⟩ := List.mem_map.mp hx
  cases st <;> rfl
theorem isSteps_st (l : List Stp) : isStepsD (stD l) = true := by
  show (l.map Stp.d).all isStepD = true
  rw [List.all_map, List.all_eq_true]
  exact fun s _ => isStep_d s
theorem st_of {d : D} (h : isStepsD d = true) : ∃ l : List Stp, d = stD l := by
  cases d with
  | tup ds =>
    have h : ds.all isStepD = true := h
    have : ∀ ds : List D, ds.all isStepD = true → ∃ l : List Stp, ds = l.map Stp.d := by
      intro ds
      induction ds with
      | nil => intro _; exact ⟨[], rfl⟩
      | cons d ds ih =>
        intro h
        rw [List.all_cons, Bool.and_eq_true] at h
        obtain ⟨s, rfl⟩ := stp_of h.1
        obtain ⟨l, rfl⟩ := ih h.2
        exact ⟨s :: l, rfl⟩
    obtain ⟨l, rfl⟩ := this ds h
    exact ⟨l, rfl⟩
  | _ => cases h
/-- steps as plain data -/
def Stp.pd : Stp → PyData
  | .add k => .int k
  | .mk m => .str m.st
theorem pd_step (M : Mp) (s : Stp) : pd M s.d = some s.pd := by
  cases s with
  | add k => show pd M (.int k) = _; rw [pd]; rfl
  | mk m => show pd M (.str m.st) = _; rw [pd]; rfl
theorem pds_st (M : Mp) : ∀ l : List Stp, pds M (l.map Stp.d) = some (l.map Stp.pd)
  | [] => by rw [List.map_nil, pds]; rfl
  | s :: l => by rw [List.map_cons, pds, pd_step, pds_st M l]; rfl
theorem pd_st (M : Mp) (l : List Stp) : pd M (stD l) = some (.tuple (l.map Stp.pd)) := by rw [stD, pd, pds_st]; rfl
theorem pdT_st (M : Mp) (l : List Stp) : pdT M (stD l) = some (.tuple (l.map Stp.pd)) := pd_st M l
theorem Stp.pd_lay (s : Stp) : s.pd.canLay0 = true := by
  cases s with
  | add k => simp [Stp.pd, PyData.canLay0]
  | mk m => cases m <;> decide +kernel
theorem lay_st : ∀ l : List Stp, PyData.canLayAll0 (l.map Stp.pd) = true
  | [] => by simp [PyData.canLayAll0]
  | s :: l => by rw [List.map_cons, PyData.canLayAll0, s.pd_lay, lay_st l]; rfl
theorem Stp.pd_depth (s : Stp) : s.pd.depth = 0 := by cases s <;> simp [Stp.pd, PyData.depth]
theorem depth_st : ∀ l : List Stp, PyData.depthAll (l.map Stp.pd) = 0
  | [] => by simp [PyData.depthAll]
  | s :: l => by rw [List.map_cons, PyData.depthAll, s.pd_depth, depth_st l]; rfl
theorem canLay_st (l : List Stp) : (PyData.tuple (l.map Stp.pd)).canLay0 = true := by rw [PyData.canLay0]; exact lay_st l
theorem shaped_st (l : List Stp) : SeqAt.shaped (.tuple (l.map Stp.pd)) = true := by
  unfold SeqAt.shaped
  rw [canLay_st, PyData.depth, depth_st]
  rfl
theorem eqv_st (l : List Stp) : PyData.eqv (.tuple (l.map Stp.pd)) (.tuple (l.map Stp.pd)) = true := SeqAt.eqv_refl _ (canLay_st l)
theorem Stp.rp {s : Stp} (h : s.lt 1900) : RpOk s.pd 0 2000 := by
  cases s with
  | add k => exact .int h
  | mk m => exact .str (by cases m <;> decide +kernel)
theorem rp_st {l : List Stp} {n : Nat} (h : ∀ s ∈ l, s.lt 1900) (hn : l.length ≤ n) : RpOk (.tuple (l.map Stp.pd)) 1 (n * 2002 + 4) := by
  refine (RpOk.tuple (d := 0) (n := 2000) fun x hx => ?_).mono (Nat.le_refl _) ?_
  · obtain ⟨s, hs, rfl⟩ := List.mem_map.mp hx
    exact Stp.rp (h s hs)
  · rw [List.length_map]
    exact Nat.add_le_add_right (Nat.mul_le_mul_right _ hn) 4
structure sp_is_steps (xs : List D) (M : Mp) (Q : DK) (E : XD) : Prop where
  ex : ∃ d, xs = [d] ∧ okT M d ∧ Q (.bl (isStepsD d)) M
theorem len_is_steps (xs : List D) (M : Mp) (Q : DK) (E : XD) : sp_is_steps xs M Q E → xs.length = 1 := by
  rintro ⟨_, rfl, _⟩; rfl
/-! #### need_steps -/
structure sp_need_steps (C : Addr) (xs : List D) (M : Mp) (Q : DK) (E : XD) : Prop where
  ex : ∃ d, xs = [d] ∧ okT M d ∧ (isStepsD d = true → Q .non M) ∧ (isStepsD d = false → E (.ref C) none M)
theorem len_need_steps {C : Addr} (xs : List D) (M : Mp) (Q : DK) (E : XD) : sp_need_steps C xs M Q E → xs.length = 1 := by
  rintro ⟨_, rfl, _⟩; rfl
theorem sp_need_steps_ok {C : Addr} {l : List Stp} {M : Mp} {Q : DK} {E : XD} (h : l.length ≤ 1000000) (q : Q .non M) : sp_need_steps C [stD l] M Q E :=
  ⟨_, rfl, okT_st h, fun _ => q, fun e => by rw [isSteps_st] at e; cases e⟩
/-! #### result_of -/
structure sp_result_of (xs : List D) (M : Mp) (Q : DK) (E : XD) : Prop where
  ex : ∃ (l : List Stp) (n : Int), xs = [stD l, .int n] ∧ Q (.int (run l n)) M
theorem len_result_of (xs : List D) (M : Mp) (Q : DK) (E : XD) : sp_result_of xs M Q E → xs.length = 2 := by
  rintro ⟨_, _, rfl, _⟩; rfl
theorem run_take {l : List Stp} {i : Nat} {s : Stp} {n : Int} (h : l[i]? = some s) : run (l.take (i + 1)) n = s.ap (run (l.take i) n) := by
  rw [List.take_add_one, h, run_append]
  rfl
/-! #### applied -/
structure sp_applied (C1 C2 : Addr) (xs : List D) (M : Mp) (Q : DK) (E : XD) : Prop where
  ex : ∃ d e, xs = [d, e] ∧ okT M d ∧ (tyD M e).isSome = true ∧ (∀ l n, d = stD l → e = .int n → Q (.int (run l n)) M) ∧ (isStepsD d = false → E (.ref C1) none M) ∧ (isStepsD d = true → isIntD e .non .non = false → E (.ref C2) none M)
theorem len_applied {C1 C2 : Addr} (xs : List D) (M : Mp) (Q : DK) (E : XD) : sp_applied C1 C2 xs M Q E → xs.length = 2 := by
  rintro ⟨_, _, rfl, _⟩; rfl
theorem stD_inj {a b : List Stp} (h : stD a = stD b) : a = b := by
  injection h with h
  induction a generalizing b with
  | nil => cases b with
    | nil => rfl
    | cons y b => cases h
  | cons x a ih => cases b with
    | nil => cases h
    | cons y b =>
      rw [List.map_cons, List.map_cons] at h
      injection h with h1 h2
      rw [Stp.d_inj h1, ih h2]
theorem sp_applied_ok {C1 C2 : Addr} {l : List Stp} {n : Int} {M : Mp} {Q : DK} {E : XD} (h : l.length ≤ 1000000) (q : Q (.int (run l n)) M) : sp_applied C1 C2 [stD l, .int n] M Q E := by
  refine ⟨_, _, rfl, okT_st h, rfl, fun l' n' e1 e2 => ?_, fun e => (by rw [isSteps_st] at e; cases e), fun _ e => (by simp [isIntD, leB, geB] at e)⟩
  rw [← stD_inj e1]
  injection e2 with e2
  rw [← e2]
  exact q
/-! #### _law_barrel -/
theorem cmulX {i j : Int} (a b : Nat) (ha : i.natAbs < 2 ^ a) (hb : j.natAbs < 2 ^ b) (h : a + b ≤ 134217728) : CMulX i j := by
  have x := PyProof.Rows.intBits_le ha
  have y := PyProof.Rows.intBits_le hb
  unfold CMulX
  omega
/-- a barrel after at most n draws -/
def Bar (l : List D) (n : Int) : Prop := ∃ x y z : Int, l = [.int x, .int y, .int z] ∧ 0 ≤ x ∧ 0 ≤ y ∧ y < 2 ^ 150 ∧ 0 ≤ z ∧ z ≤ n
theorem Bar.mono {l : List D} {n m : Int} (h : Bar l n) (e : n ≤ m) : Bar l m := by
  obtain ⟨x, y, z, h1, h2, h3, h4, h5, h6⟩ := h
  exact ⟨x, y, z, h1, h2, h3, h4, h5, by omega⟩
def sp__law_barrel : DSp := fun xs M Q _ => ∃ (ns : List Int) (k : Int), xs = [.scr ns, .int k] ∧ 0 ≤ k ∧ k ≤ 100 ∧ ∀ p l, M p = none → Bar l 0 → Q (.ref p) (mup M p (.lst l))
theorem len__law_barrel (xs : List D) (M : Mp) (Q : DK) (E : XD) : sp__law_barrel xs M Q E → xs.length = 2 := by
  rintro ⟨_, _, rfl, _⟩; rfl
/-! #### _law_draw -/
def sp__law_draw : DSp := fun xs M Q _ => ∃ (b : Addr) (many n : Int) (l : List D), xs = [.ref b, .int many] ∧ 1 ≤ many ∧ many < 2 ^ 200 ∧ M b = some (.lst l) ∧ Bar l n ∧ n < 2 ^ 60 ∧
  ∀ r l', 0 ≤ r → r < many → Bar l' (n + 1) → Q (.int r) (mup M b (.lst l'))
theorem len__law_draw (xs : List D) (M : Mp) (Q : DK) (E : XD) : sp__law_draw xs M Q E → xs.length = 2 := by
  rintro ⟨_, _, _, _, rfl, _⟩; rfl
/-! #### _law_number -/
theorem okRepr_int {v : Int} (h : v.natAbs < 2 ^ 1900) : okRepr (.int v) := by
  have hl : v.natAbs.log2 < 1920 := by
    by_cases h0 : v.natAbs = 0
    · rw [h0]; decide
    · have := (Nat.log2_lt h0).mpr h
      omega
  have hs : (PyData.shown (.int v)).length ≤ sizeLine := int_text_fits hl
  exact ⟨by simp [PyData.showable, hl], by simp [PyData.hasDict], by simp [PyData.depth], hs⟩
def sp__law_number : DSp := fun xs M Q _ => ∃ (b : Addr) (n : Int) (l : List D), xs = [.ref b] ∧ M b = some (.lst l) ∧ Bar l n ∧ n < 2 ^ 59 ∧
  ∀ v l', v.natAbs < 2 ^ 210 → Bar l' (n + 10) → Q (.int v) (mup M b (.lst l'))
theorem len__law_number (xs : List D) (M : Mp) (Q : DK) (E : XD) : sp__law_number xs M Q E → xs.length = 1 := by
  rintro ⟨_, _, _, rfl, _⟩; rfl
theorem rangeD_len (lo : Int) (n : Nat) : (rangeD lo n).length = n := by simp [rangeD]
theorem rangeD_get {lo : Int} {n i : Nat} {d : D} (h : (rangeD lo n)[i]? = some d) : i < n ∧ d = .int (lo + i) := by
  have hi : i < n := by
    have := (List.getElem?_eq_some_iff.mp h).1
    rw [rangeD_len] at this; exact this
  have e : (rangeD lo n)[i]? = some (.int (lo + i)) := by simp [rangeD, hi]
  rw [e] at h
  exact ⟨hi, (Option.some.inj h).symm⟩
/-! #### _law_first -/
def sp__law_first : DSp := fun xs M Q _ => ∃ (v bit : Int), xs = [.int v, .int bit] ∧
  (∀ k : Nat, v / 2 ^ k % 2 = bit → (∀ j, j < k → v / 2 ^ j % 2 ≠ bit) → Q (.int k) M) ∧ ((∀ j : Nat, v / 2 ^ j % 2 ≠ bit) → Q .non M)
theorem len__law_first (xs : List D) (M : Mp) (Q : DK) (E : XD) : sp__law_first xs M Q E → xs.length = 2 := by
  rintro ⟨_, _, rfl, _⟩; rfl
/-! #### _law_power -/
def sp__law_power : DSp := fun xs M Q _ => ∃ many : Int, xs = [.int many] ∧ 0 ≤ many ∧ many ≤ 10000 ∧ Q (.int (2 ^ many.toNat)) M
theorem len__law_power (xs : List D) (M : Mp) (Q : DK) (E : XD) : sp__law_power xs M Q E → xs.length = 1 := by
  rintro ⟨_, rfl, _⟩; rfl
/-! #### _law_step -/
/-- the place that it looks for is not beyond the number's bits -/
theorem first_le {v : Int} {n k : Nat} (hv : v.natAbs < 2 ^ n) {t : Int} (ht : t = 0 ∨ t = 1) (h : v / 2 ^ k % 2 = t) (hl : ∀ j, j < k → v / 2 ^ j % 2 ≠ t) : k ≤ n + 1 := by
  refine Nat.le_of_not_lt fun hk => ?_
  have top : ∀ j : Nat, n ≤ j → v / 2 ^ j = if v < 0 then -1 else 0 := fun j hj => by
    have hp : (2 : Int) ^ n ≤ 2 ^ j := by
      have := Nat.pow_le_pow_right (show 0 < 2 by decide) hj
      exact_mod_cast this
    have hv' : (v.natAbs : Int) < 2 ^ n := by exact_mod_cast hv
    split
    · rename_i h0
      have h1 : v = (v + 2 ^ j) + 2 ^ j * (-1) := by omega
      rw [h1, Int.add_mul_ediv_left _ _ (by omega), Int.ediv_eq_zero_of_lt (by omega) (by omega)]
      rfl
    · exact Int.ediv_eq_zero_of_lt (by omega) (by omega)
  have a1 := top k (by omega)
  have a2 := top n (Nat.le_refl _)
  have a3 := hl n (by omega)
  rw [a2] at a3
  rw [a1] at h
  exact a3 h
theorem natAbs_ediv_le {v p : Int} (h : 0 < p) : (v / p).natAbs ≤ v.natAbs := by
  by_cases hv : 0 ≤ v
  · have h2 : v / p ≤ v := Int.ediv_le_self p hv
    have h3 : 0 ≤ v / p := Int.ediv_nonneg hv (by omega)
    omega
  · have h2 : v ≤ v / p := by
      apply Int.le_ediv_of_mul_le h
      have : v * p ≤ v * 1 := Int.mul_le_mul_of_nonpos_left (by omega) (by omega)
      omega
    have h3 : v / p < 0 := Int.ediv_neg_of_neg_of_pos (by omega) h
    omega
def sp__law_step : DSp := fun xs M Q _ => ∃ (v : Int) (st : Stp), xs = [.int v, st.d] ∧ v.natAbs < 2 ^ 2000 ∧ Q (.int (st.ap v)) M
theorem len__law_step (xs : List D) (M : Mp) (Q : DK) (E : XD) : sp__law_step xs M Q E → xs.length = 2 := by
  rintro ⟨_, _, rfl, _⟩; rfl
/-! #### _law_some -/
structure sp__law_some (xs : List D) (M : Mp) (Q : DK) (E : XD) : Prop where
  ex : ∃ (b : Addr) (most n : Int) (l : List D), xs = [.ref b, .int most] ∧ 0 ≤ most ∧ most ≤ 100 ∧ M b = some (.lst l) ∧ Bar l n ∧ n < 2 ^ 59 ∧
    ∀ (sts : List Stp) l', (sts.length : Int) ≤ most → (∀ s ∈ sts, s.lt 100) → Bar l' (n + 1000) → Q (stD sts) (mup M b (.lst l'))
theorem len__law_some (xs : List D) (M : Mp) (Q : DK) (E : XD) : sp__law_some xs M Q E → xs.length = 2 := by
  rintro ⟨_, _, _, _, rfl, _⟩; rfl
/-- one of a few -/
theorem at_mem {α : Type} {xs : List α} {i : Int} {P : α → Prop} (h0 : 0 ≤ i) (h1 : i < xs.length) (h : ∀ x ∈ xs, P x) : ∃ x, atI xs i = some x ∧ P x := by
  have hi : i.toNat < xs.length := by omega
  exact ⟨xs[i.toNat], at_j i.toNat (by omega) (List.getElem?_eq_getElem hi), h _ (List.getElem_mem hi)⟩
/-- a step with a small integer, as data -/
def StpD (d : D) : Prop := ∃ s : Stp, d = s.d ∧ s.lt 100
theorem StpD.int {k : Int} (h : k.natAbs < 2 ^ 100) : StpD (.int k) := ⟨.add k, rfl, h⟩
theorem StpD.mk (m : Mk) : StpD (.str m.st) := ⟨.mk m, rfl, trivial⟩
theorem csft_at {i : Int} (h0 : 0 ≤ i) (h1 : i < 4) : ∃ c, atI (("csft" : Str)).cps.toList i = some c ∧ ∃ m : Mk, (⟨#[c]⟩ : Str) = m.st :=
  at_mem (xs := [99, 115, 102, 116]) h0 h1 fun x hx => by
    simp only [List.mem_cons, List.not_mem_nil, or_false] at hx
    rcases hx with rfl | rfl | rfl | rfl
    · exact ⟨.c, rfl⟩
    · exact ⟨.s, rfl⟩
    · exact ⟨.f, rfl⟩
    · exact ⟨.t, rfl⟩
theorem cs_at {i : Int} (h0 : 0 ≤ i) (h1 : i < 2) : ∃ c, atI (("cs" : Str)).cps.toList i = some c ∧ ∃ m : Mk, (⟨#[c]⟩ : Str) = m.st :=
  at_mem (xs := [99, 115]) h0 h1 fun x hx => by
    simp only [List.mem_cons, List.not_mem_nil, or_false] at hx
    rcases hx with rfl | rfl
    · exact ⟨.c, rfl⟩
    · exact ⟨.s, rfl⟩
def Row4 (d : D) : Prop := ∃ a b c e : D, d = .lst [a, b, c, e] ∧ StpD a ∧ StpD b ∧ StpD c ∧ StpD e
/-! #### _law_run -/
structure sp__law_run (xs : List D) (M : Mp) (Q : DK) (E : XD) : Prop where
  ex : ∃ (l : List Stp) (n : Int), xs = [stD l, .int n] ∧ l.length ≤ 300 ∧ (∀ s ∈ l, s.lt 300) ∧ n.natAbs < 2 ^ 1000 ∧ Q (.int (run l n)) M
theorem len__law_run (xs : List D) (M : Mp) (Q : DK) (E : XD) : sp__law_run xs M Q E → xs.length = 2 := by
  rintro ⟨_, _, rfl, _⟩; rfl
theorem sp__law_run_ok {l : List Stp} {n : Int} {M : Mp} {Q : DK} {E : XD} (hl : l.length ≤ 300) (hs : ∀ s ∈ l, s.lt 300) (hn : n.natAbs < 2 ^ 1000) (q : Q (.int (run l n)) M) : sp__law_run [stD l, .int n] M Q E := ⟨l, n, rfl, hl, hs, hn, q⟩
theorem Stp.lt.mono {s : Stp} {a b : Nat} (h : s.lt a) (e : a ≤ b) : s.lt b := by
  cases s with
  | add k => exact Nat.lt_of_lt_of_le h (Nat.pow_le_pow_right (by decide) e)
  | mk m => trivial
theorem stcut_to (l : List Stp) (k : Nat) : D.tup (cutD (l.map Stp.d) none (some (k : Int))) = stD (l.take k) := by
  rw [cutD_to, ← List.map_take]; rfl
theorem stcut_from (l : List Stp) (k : Nat) : D.tup (cutD (l.map Stp.d) (some (k : Int)) none) = stD (l.drop k) := by
  rw [cutD_from, ← List.map_drop]; rfl
/-- how many cells are taken -/
theorem kmax_le (n : Nat) : (if (if (n : Int) + 1 < 5 then (n : Int) + 1 else 5) > 1 then (if (n : Int) + 1 < 5 then (n : Int) + 1 else 5) else 1) ≤ 5 ∧ 0 ≤ (if (if (n : Int) + 1 < 5 then (n : Int) + 1 else 5) > 1 then (if (n : Int) + 1 < 5 then (n : Int) + 1 else 5) else 1) := by
  split <;> split <;> omega
/-! #### merged_steps -/
/-- neighbouring integers added, without zeros -/
def mgA : List Stp → Int → List Stp → List Stp
  | f, sh, [] => if sh ≠ 0 then f ++ [.add sh] else f
  | f, sh, .mk m :: r => mgA (f ++ (if sh ≠ 0 then [.add sh, .mk m] else [.mk m])) 0 r
  | f, sh, .add k :: r => mgA f (sh + k) r
def mgd (l : List Stp) : List Stp := mgA [] 0 l
theorem run_mgA : ∀ (l f : List Stp) (sh n : Int), run (mgA f sh l) n = run l (run f n + sh)
  | [], f, sh, n => by
    unfold mgA
    split
    · rw [run_append]; rfl
    · rename_i h
      have e : sh = 0 := by omega
      rw [e, Int.add_zero]; rfl
  | .mk m :: r, f, sh, n => by
    unfold mgA
    rw [run_mgA r, run_append, run_cons, Int.add_zero]
    split
    · rfl
    · rename_i h
      have e : sh = 0 := by omega
      rw [e, Int.add_zero]; rfl
  | .add k :: r, f, sh, n => by
    unfold mgA
    rw [run_mgA r, run_cons]
    show _ = run r (run f n + sh + k)
    rw [Int.add_assoc]
theorem run_mgd (l : List Stp) (n : Int) : run (mgd l) n = run l n := by
  rw [mgd, run_mgA, run_nil, Int.add_zero]
theorem mgA_len : ∀ (l f : List Stp) (sh : Int), (mgA f sh l).length ≤ f.length + l.length + (if sh ≠ 0 then 1 else 0)
  | [], f, sh => by
    unfold mgA
    split
    · simp
    · simp
  | .mk m :: r, f, sh => by
    unfold mgA
    have := mgA_len r (f ++ (if sh ≠ 0 then [.add sh, .mk m] else [.mk m])) 0
    rw [List.length_append] at this
    simp only [List.length_cons]
    split <;> rename_i h
    · rw [if_pos h] at this; simp at this ⊢; omega
    · rw [if_neg h] at this; simp at this ⊢; omega
  | .add k :: r, f, sh => by
    unfold mgA
    have := mgA_len r f (sh + k)
    simp only [List.length_cons]
    split at this <;> split <;> omega
theorem mgd_len (l : List Stp) : (mgd l).length ≤ l.length := by
  have := mgA_len l [] 0
  rw [mgd]
  simpa using this
structure sp_merged_steps (xs : List D) (M : Mp) (Q : DK) (E : XD) : Prop where
  ex : ∃ (d : D) (l : List Stp), xs = [d] ∧ (d = stD l ∨ d = .lst (l.map Stp.d)) ∧ l.length ≤ 1000000 ∧ Q (stD (mgd l)) M
theorem isMask_mk (m : Mk) : isMaskD (.str m.st) = true := by cases m <;> decide
theorem sp_merged_steps_t {l : List Stp} {M : Mp} {Q : DK} {E : XD} (h : l.length ≤ 1000000) (q : Q (stD (mgd l)) M) : sp_merged_steps [stD l] M Q E := ⟨_, l, rfl, .inl rfl, h, q⟩
theorem sp_merged_steps_l {l : List Stp} {M : Mp} {Q : DK} {E : XD} (h : l.length ≤ 1000000) (q : Q (stD (mgd l)) M) : sp_merged_steps [.lst (l.map Stp.d)] M Q E := ⟨_, l, rfl, .inr rfl, h, q⟩
theorem len_merged_steps (xs : List D) (M : Mp) (Q : DK) (E : XD) : sp_merged_steps xs M Q E → xs.length = 1 := by
  rintro ⟨_, _, rfl, _⟩; rfl
/-! #### merged -/
/-- nothing to add, no zeros -/
def nrm : Bool → List Stp → Bool
  | _, [] => true
  | _, .mk _ :: r => nrm false r
  | p, .add k :: r => !p && decide (k ≠ 0) && nrm true r
theorem nrm_imp : ∀ {l : List Stp}, nrm true l = true → nrm false l = true
  | [], _ => rfl
  | .mk _ :: r, h => h
  | .add k :: r, h => by rw [nrm] at h; simp at h
theorem mgA_nrm : ∀ (l f : List Stp) (sh : Int), (sh = 0 → nrm false l = true) → (sh ≠ 0 → nrm true l = true) → mgA f sh l = f ++ (if sh ≠ 0 then [.add sh] else []) ++ l
  | [], f, sh, _, _ => by rw [mgA]; split <;> simp
  | .mk m :: r, f, sh, h1, h2 => by
    rw [mgA, mgA_nrm r _ 0 (fun _ => by
      by_cases h : sh = 0
      · exact h1 h
      · exact h2 h) (fun h => absurd rfl h)]
    by_cases h : sh = 0
    · simp [h]
    · simp [h]
  | .add k :: r, f, sh, h1, h2 => by
    by_cases h : sh = 0
    · have := h1 h
      rw [nrm] at this
      simp only [Bool.not_false, Bool.true_and, Bool.and_eq_true, decide_eq_true_eq] at this
      rw [mgA, mgA_nrm r f (sh + k) (fun z => absurd (by omega) this.1) (fun _ => this.2), h, Int.zero_add, if_pos this.1]
      simp
    · have := h2 h
      rw [nrm] at this
      simp at this
theorem mgd_of_nrm {l : List Stp} (h : nrm false l = true) : mgd l = l := by
  rw [mgd, mgA_nrm l [] 0 (fun _ => h) (fun z => absurd rfl z)]
  simp
theorem nrm_mgA : ∀ (l f : List Stp) (sh : Int), (∀ r, nrm false r = true → nrm false (f ++ r) = true) → nrm false (mgA f sh l) = true
  | [], f, sh, hf => by
    rw [mgA]
    split
    · rename_i h
      exact hf _ (by simp [nrm, h])
    · have := hf [] rfl
      rwa [List.append_nil] at this
  | .mk m :: r, f, sh, hf => by
    rw [mgA]
    refine nrm_mgA r _ 0 fun t ht => ?_
    rw [List.append_assoc]
    refine hf _ ?_
    split
    · rename_i h
      simp [nrm, h, ht]
    · exact ht
  | .add k :: r, f, sh, hf => by
    rw [mgA]
    exact nrm_mgA r f _ hf
theorem mgd_nrm (l : List Stp) : nrm false (mgd l) = true := nrm_mgA l [] 0 fun r h => h
theorem mgd_mgd (l : List Stp) : mgd (mgd l) = mgd l := mgd_of_nrm (mgd_nrm l)
theorem mgA_mem {m : Mk} : ∀ (l f : List Stp) (sh : Int), .mk m ∈ mgA f sh l → .mk m ∈ f ∨ Stp.mk m ∈ l
  | [], f, sh, h => by
    rw [mgA] at h
    split at h
    · rcases List.mem_append.mp h with h | h
      · exact .inl h
      · simp at h
    · exact .inl h
  | .mk m' :: r, f, sh, h => by
    rw [mgA] at h
    rcases mgA_mem r _ 0 h with h | h
    · rcases List.mem_append.mp h with h | h
      · exact .inl h
      · split at h
        · simp at h; exact .inr (by simp [h])
        · simp at h; exact .inr (by simp [h])
    · exact .inr (List.mem_cons_of_mem _ h)
  | .add k :: r, f, sh, h => by
    rw [mgA] at h
    rcases mgA_mem r _ _ h with h | h
    · exact .inl h
    · exact .inr (List.mem_cons_of_mem _ h)
theorem mgA_lt {B C : Nat} : ∀ (l f : List Stp) (sh : Int), (∀ s ∈ l, s.lt B) → (∀ s ∈ f, s.lt C) → sh.natAbs + l.length * 2 ^ B < 2 ^ C → ∀ s ∈ mgA f sh l, s.lt C
  | [], f, sh, hl, hf, hs => by
    rw [mgA]
    split
    · intro s h
      rcases List.mem_append.mp h with h | h
      · exact hf s h
      · rw [List.mem_singleton.mp h]
        show sh.natAbs < 2 ^ C
        simpa using hs
    · exact hf
  | .mk m' :: r, f, sh, hl, hf, hs => by
    rw [mgA]
    rw [List.length_cons, Nat.add_mul] at hs
    refine mgA_lt r _ 0 (fun s h => hl s (List.mem_cons_of_mem _ h)) (fun s h => ?_) (by simp; omega)
    rcases List.mem_append.mp h with h | h
    · exact hf s h
    · split at h
      · simp at h
        rcases h with rfl | rfl
        · show sh.natAbs < 2 ^ C
          omega
        · trivial
      · simp at h
        subst h
        trivial
  | .add k :: r, f, sh, hl, hf, hs => by
    rw [mgA]
    rw [List.length_cons, Nat.add_mul] at hs
    have hk : k.natAbs < 2 ^ B := hl _ List.mem_cons_self
    refine mgA_lt r _ _ (fun s h => hl s (List.mem_cons_of_mem _ h)) hf ?_
    omega
theorem mgd_lt {B C : Nat} {l : List Stp} (hl : ∀ s ∈ l, s.lt B) (hs : l.length * 2 ^ B < 2 ^ C) : ∀ s ∈ mgd l, s.lt C := mgA_lt l [] 0 hl (fun s h => nomatch h) (by simpa using hs)
structure sp_merged (C1 : Addr) (xs : List D) (M : Mp) (Q : DK) (E : XD) : Prop where
  ex : ∃ d, xs = [d] ∧ okT M d ∧ (∀ l, d = stD l → Q (stD (mgd l)) M) ∧ (isStepsD d = false → E (.ref C1) none M)
theorem len_merged {C1 : Addr} (xs : List D) (M : Mp) (Q : DK) (E : XD) : sp_merged C1 xs M Q E → xs.length = 1 := by
  rintro ⟨_, rfl, _⟩; rfl
theorem sp_merged_ok {C1 : Addr} {l : List Stp} {M : Mp} {Q : DK} {E : XD} (h : l.length ≤ 1000000) (q : Q (stD (mgd l)) M) : sp_merged C1 [stD l] M Q E :=
  ⟨_, rfl, okT_st h, fun l' e => by rw [← stD_inj e]; exact q, fun e => by rw [isSteps_st] at e; cases e⟩
/-! #### plain -/
/-- only f and t -/
def Stp.pl : Stp → List Stp
  | .mk .c => [.add (-1), .mk .t]
  | .mk .s => [.add 1, .mk .f]
  | s => [s]
def plA (l : List Stp) : List Stp := l.flatMap Stp.pl
def pln (l : List Stp) : List Stp := mgd (plA l)
theorem bor_comm (x y : Int) : Builtin.bitOr x y = Builtin.bitOr y x := by rw [bor_eq, bor_eq, bitAnd_comm]
theorem Stp.pl_run (s : Stp) (n : Int) : run s.pl n = s.ap n := by
  cases s with
  | add k => rfl
  | mk m =>
    cases m with
    | c =>
      show Builtin.bitAnd (n + (-1)) (n + (-1) + 1) = Builtin.bitAnd n (n - 1)
      rw [show n + (-1) + 1 = n by omega, show n + (-1) = n - 1 by omega, bitAnd_comm]
    | s =>
      show Builtin.bitOr (n + 1) (n + 1 - 1) = Builtin.bitOr n (n + 1)
      rw [show n + 1 - 1 = n by omega, bor_comm]
    | f => rfl
    | t => rfl
theorem plA_cons (s : Stp) (l : List Stp) : plA (s :: l) = s.pl ++ plA l := rfl
theorem run_plA : ∀ (l : List Stp) (n : Int), run (plA l) n = run l n
  | [], n => rfl
  | s :: l, n => by rw [plA_cons, run_append, Stp.pl_run, run_cons, run_plA l]
theorem run_pln (l : List Stp) (n : Int) : run (pln l) n = run l n := by rw [pln, run_mgd, run_plA]
theorem Stp.pl_len (s : Stp) : s.pl.length ≤ 2 := by
  cases s with
  | add k => simp [Stp.pl]
  | mk m => cases m <;> simp [Stp.pl]
theorem plA_len : ∀ l : List Stp, (plA l).length ≤ 2 * l.length
  | [] => Nat.le_refl _
  | s :: l => by
    rw [plA_cons, List.length_append, List.length_cons]
    have := s.pl_len
    have := plA_len l
    omega
theorem pln_len (l : List Stp) : (pln l).length ≤ 2 * l.length := Nat.le_trans (mgd_len _) (plA_len l)
theorem plA_take {l : List Stp} {i : Nat} {s : Stp} (h : l[i]? = some s) : plA (l.take (i + 1)) = plA (l.take i) ++ s.pl := by
  rw [List.take_add_one, h]
  unfold plA
  rw [List.flatMap_append]
  simp
/-- what the written dict gives -/
theorem pl_get (s : Stp) : ∃ k, keyD s.d = some k ∧ (findD k [.inr "c", .inr "s"] [.lst [.int (-1), .str "t"], .lst [.int 1, .str "f"]]).getD (.lst [s.d]) = .lst (s.pl.map Stp.d) := by
  cases s with
  | add k => exact ⟨.inl k, rfl, by simp [findD, Stp.pl, Stp.d]⟩
  | mk m => cases m <;> exact ⟨_, rfl, by first | rfl | decide⟩
theorem Stp.pl_pl {s t : Stp} (h : t ∈ s.pl) : t.pl = [t] := by
  cases s with
  | add k => simp [Stp.pl] at h; subst h; rfl
  | mk m => cases m <;> simp [Stp.pl] at h <;> (first | (rcases h with rfl | rfl <;> rfl) | (subst h; rfl))
theorem plA_id : ∀ {l : List Stp}, (∀ s ∈ l, s.pl = [s]) → plA l = l
  | [], _ => rfl
  | s :: l, h => by
    rw [plA_cons, h s List.mem_cons_self, plA_id fun t ht => h t (List.mem_cons_of_mem _ ht)]; rfl
theorem pln_pl {l : List Stp} : ∀ s ∈ pln l, s.pl = [s] := fun s h => by
  cases s with
  | add k => rfl
  | mk m =>
    rcases mgA_mem _ _ _ h with h | h
    · cases h
    · obtain ⟨t, _, ht⟩ := List.mem_flatMap.mp h
      exact Stp.pl_pl ht
theorem pln_pln (l : List Stp) : pln (pln l) = pln l := by
  show mgd (plA (pln l)) = pln l
  rw [plA_id pln_pl, pln, mgd_mgd]
theorem plA_lt {B : Nat} (hB : 1 ≤ B) {l : List Stp} (hl : ∀ s ∈ l, s.lt B) : ∀ s ∈ plA l, s.lt B := fun s h => by
  obtain ⟨t, h1, ht⟩ := List.mem_flatMap.mp h
  have h2 : 2 ≤ 2 ^ B := Nat.pow_le_pow_right (n := 2) (by decide) hB
  have h3 := hl t h1
  cases t with
  | add k => simp [Stp.pl] at ht; subst ht; exact h3
  | mk m => cases m <;> simp [Stp.pl] at ht <;> (first | (rcases ht with rfl | rfl <;> simp [Stp.lt]; omega) | (subst ht; trivial))
theorem pln_lt {B C : Nat} (hB : 1 ≤ B) {l : List Stp} (hl : ∀ s ∈ l, s.lt B) (hs : 2 * l.length * 2 ^ B < 2 ^ C) : ∀ s ∈ pln l, s.lt C :=
  mgd_lt (plA_lt hB hl) (Nat.lt_of_le_of_lt (Nat.mul_le_mul_right _ (plA_len l)) hs)
structure sp_plain (C1 : Addr) (xs : List D) (M : Mp) (Q : DK) (E : XD) : Prop where
  ex : ∃ d, xs = [d] ∧ okT M d ∧ (∀ l, d = stD l → l.length ≤ 500000 ∧ Q (stD (pln l)) M) ∧ (isStepsD d = false → E (.ref C1) none M)
theorem len_plain {C1 : Addr} (xs : List D) (M : Mp) (Q : DK) (E : XD) : sp_plain C1 xs M Q E → xs.length = 1 := by
  rintro ⟨_, rfl, _⟩; rfl
theorem sp_plain_ok {C1 : Addr} {l : List Stp} {M : Mp} {Q : DK} {E : XD} (h : l.length ≤ 500000) (q : Q (stD (pln l)) M) : sp_plain C1 [stD l] M Q E :=
  ⟨_, rfl, okT_st (by omega), fun l' e => by rw [← stD_inj e]; exact ⟨h, q⟩, fun e => by rw [isSteps_st] at e; cases e⟩
/-! #### exchanged -/
def Mk.ex : Mk → Mk
  | .c => .s
  | .s => .c
  | .f => .t
  | .t => .f
def Stp.ex : Stp → Stp
  | .add k => .add (-k)
  | .mk m => .mk m.ex
def exd (l : List Stp) : List Stp := l.map Stp.ex
theorem Stp.ex_ex (s : Stp) : s.ex.ex = s := by
  cases s with
  | add k => show Stp.add (- -k) = _; rw [Int.neg_neg]
  | mk m => cases m <;> rfl
theorem exd_exd (l : List Stp) : exd (exd l) = l := by
  unfold exd
  rw [List.map_map]
  exact (List.map_congr_left fun s _ => s.ex_ex).trans (List.map_id _)
theorem Stp.ex_run (s : Stp) (n : Int) : s.ex.ap (-1 - n) = -1 - s.ap n := by
  cases s with
  | add k => show -1 - n + -k = -1 - (n + k); omega
  | mk m =>
    cases m with
    | c =>
      show Builtin.bitOr (-1 - n) (-1 - n + 1) = -1 - Builtin.bitAnd n (n - 1)
      rw [bor_eq, show -(-1 - n) - 1 = n by omega, show -(-1 - n + 1) - 1 = n - 1 by omega]
      omega
    | s =>
      show Builtin.bitAnd (-1 - n) (-1 - n - 1) = -1 - Builtin.bitOr n (n + 1)
      rw [bor_eq, show -n - 1 = -1 - n by omega, show -(n + 1) - 1 = -1 - n - 1 by omega]
      omega
    | f =>
      show Builtin.bitAnd (-1 - n) (-1 - n + 1) = -1 - Builtin.bitOr n (n - 1)
      rw [bor_eq, show -n - 1 = -1 - n by omega, show -(n - 1) - 1 = -1 - n + 1 by omega]
      omega
    | t =>
      show Builtin.bitOr (-1 - n) (-1 - n - 1) = -1 - Builtin.bitAnd n (n + 1)
      rw [bor_eq, show -(-1 - n) - 1 = n by omega, show -(-1 - n - 1) - 1 = n + 1 by omega]
      omega
theorem run_exd : ∀ (l : List Stp) (n : Int), run (exd l) (-1 - n) = -1 - run l n
  | [], n => rfl
  | s :: l, n => by
    show run (exd l) (s.ex.ap (-1 - n)) = -1 - run l (s.ap n)
    rw [Stp.ex_run, run_exd l]
theorem exd_lt {B : Nat} {l : List Stp} (hl : ∀ s ∈ l, s.lt B) : ∀ s ∈ exd l, s.lt B := fun s h => by
  obtain ⟨t, h1, rfl⟩ := List.mem_map.mp h
  have h3 := hl t h1
  cases t with
  | add k =>
    show (-k).natAbs < 2 ^ B
    rw [Int.natAbs_neg]; exact h3
  | mk m => trivial
theorem exd_len (l : List Stp) : (exd l).length = l.length := List.length_map ..
theorem ex_get (m : Mk) : List.lookup m.st tab_PARTNERS = some (.str m.ex.st) := by cases m <;> rfl
structure sp_exchanged (C1 : Addr) (xs : List D) (M : Mp) (Q : DK) (E : XD) : Prop where
  ex : ∃ d, xs = [d] ∧ okT M d ∧ (∀ l, d = stD l → Q (stD (exd l)) M) ∧ (isStepsD d = false → E (.ref C1) none M)
theorem len_exchanged {C1 : Addr} (xs : List D) (M : Mp) (Q : DK) (E : XD) : sp_exchanged C1 xs M Q E → xs.length = 1 := by
  rintro ⟨_, rfl, _⟩; rfl
theorem sp_exchanged_ok {C1 : Addr} {l : List Stp} {M : Mp} {Q : DK} {E : XD} (h : l.length ≤ 1000000) (q : Q (stD (exd l)) M) : sp_exchanged C1 [stD l] M Q E :=
  ⟨_, rfl, okT_st h, fun l' e => by rw [← stD_inj e]; exact q, fun e => by rw [isSteps_st] at e; cases e⟩
/-! #### _law_parts -/
def partsD (xs : List D) : List D := xs.mapIdx fun i d => .lst [.int (i : Nat), d]
structure sp__law_parts (xs : List D) (M : Mp) (Q : DK) (E : XD) : Prop where
  ex : ∃ (d : D) (l : List D), xs = [d] ∧ (d = .tup l ∨ d = .lst l) ∧ l.length ≤ 100000 ∧ Q (.lst (partsD l)) M
theorem len__law_parts (xs : List D) (M : Mp) (Q : DK) (E : XD) : sp__law_parts xs M Q E → xs.length = 1 := by
  rintro ⟨_, _, rfl, _⟩; rfl
theorem sp__law_parts_t {l : List D} {M : Mp} {Q : DK} {E : XD} (h : l.length ≤ 100000) (q : Q (.lst (partsD l)) M) : sp__law_parts [.tup l] M Q E := ⟨_, l, rfl, .inl rfl, h, q⟩
theorem sp__law_parts_l {l : List D} {M : Mp} {Q : DK} {E : XD} (h : l.length ≤ 100000) (q : Q (.lst (partsD l)) M) : sp__law_parts [.lst l] M Q E := ⟨_, l, rfl, .inr rfl, h, q⟩
theorem partsD_take {xs : List D} {i : Nat} {e : D} (h : xs[i]? = some e) : (partsD xs).take (i + 1) = (partsD xs).take i ++ [.lst [.int (i : Nat), e]] := by
  have : (partsD xs)[i]? = some (.lst [.int (i : Nat), e]) := by
    unfold partsD
    rw [List.getElem?_mapIdx, h]; rfl
  rw [List.take_add_one, this]; rfl
theorem partsD_len (xs : List D) : (partsD xs).length = xs.length := List.length_mapIdx
/-! #### _law_joined -/
structure sp__law_joined (xs : List D) (M : Mp) (Q : DK) (E : XD) : Prop where
  ex : ∃ (l : List Stp), xs = [.lst (partsD (l.map Stp.d))] ∧ l.length ≤ 100000 ∧ Q (stD (mgd l)) M
theorem len__law_joined (xs : List D) (M : Mp) (Q : DK) (E : XD) : sp__law_joined xs M Q E → xs.length = 1 := by
  rintro ⟨_, rfl, _⟩; rfl
theorem int_three (k : Int) : k = 0 ∨ (∃ n, k = Int.ofNat (n + 1)) ∨ ∃ n, k = Int.negSucc n := by
  match k with
  | .ofNat 0 => exact .inl rfl
  | .ofNat (n + 1) => exact .inr (.inl ⟨n, rfl⟩)
  | .negSucc n => exact .inr (.inr ⟨n, rfl⟩)
theorem lst_nil (f z r : List D) (h : z = []) : f ++ z ++ r = f ++ r := by rw [h, List.append_nil]
theorem sp__law_joined_ok {l : List Stp} {M : Mp} {Q : DK} {E : XD} (h : l.length ≤ 100000) (q : Q (stD (mgd l)) M) : sp__law_joined [.lst (partsD (l.map Stp.d))] M Q E := ⟨l, rfl, h, q⟩
/-! #### _law_plain -/
structure sp__law_plain (xs : List D) (M : Mp) (Q : DK) (E : XD) : Prop where
  ex : ∃ (l : List Stp), xs = [stD l] ∧ l.length ≤ 1000 ∧ Q (stD (pln l)) M
theorem len__law_plain (xs : List D) (M : Mp) (Q : DK) (E : XD) : sp__law_plain xs M Q E → xs.length = 1 := by
  rintro ⟨_, rfl, _⟩; rfl
theorem sp__law_plain_ok {l : List Stp} {M : Mp} {Q : DK} {E : XD} (h : l.length ≤ 1000) (q : Q (stD (pln l)) M) : sp__law_plain [stD l] M Q E := ⟨l, rfl, h, q⟩
/-! #### _law_turned -/
structure sp__law_turned (xs : List D) (M : Mp) (Q : DK) (E : XD) : Prop where
  ex : ∃ (s : Stp), xs = [s.d] ∧ Q s.ex.d M
theorem len__law_turned (xs : List D) (M : Mp) (Q : DK) (E : XD) : sp__law_turned xs M Q E → xs.length = 1 := by
  rintro ⟨_, rfl, _⟩; rfl
/-! #### _law_well -/
def sp__law_well : DSp := fun xs M Q _ => ∃ (ns : List Int) (k : Int), xs = [.scr ns, .int k] ∧ 0 ≤ k ∧ k ≤ 100 ∧ ∀ p l, M p = none → Bar l 0 → Q (.ref p) (mup M p (.lst l))
theorem len__law_well (xs : List D) (M : Mp) (Q : DK) (E : XD) : sp__law_well xs M Q E → xs.length = 2 := by
  rintro ⟨_, _, rfl, _⟩; rfl
/-! #### _law_dip -/
def sp__law_dip : DSp := fun xs M Q _ => ∃ (b : Addr) (many n : Int) (l : List D), xs = [.ref b, .int many] ∧ 1 ≤ many ∧ many < 2 ^ 300 ∧ M b = some (.lst l) ∧ Bar l n ∧ n < 2 ^ 60 ∧
  ∀ r l', 0 ≤ r → r < many → Bar l' (n + 1) → Q (.int r) (mup M b (.lst l'))
theorem len__law_dip (xs : List D) (M : Mp) (Q : DK) (E : XD) : sp__law_dip xs M Q E → xs.length = 2 := by
  rintro ⟨_, _, _, _, rfl, _⟩; rfl
/-! #### _law_result -/
structure sp__law_result (xs : List D) (M : Mp) (Q : DK) (E : XD) : Prop where
  ex : ∃ (l : List Stp) (n : Int), xs = [stD l, .int n] ∧ Q (.int (run l n)) M
theorem len__law_result (xs : List D) (M : Mp) (Q : DK) (E : XD) : sp__law_result xs M Q E → xs.length = 2 := by
  rintro ⟨_, _, rfl, _⟩; rfl
theorem sp__law_result_ok {l : List Stp} {n : Int} {M : Mp} {Q : DK} {E : XD} (q : Q (.int (run l n)) M) : sp__law_result [stD l, .int n] M Q E := ⟨l, n, rfl, q⟩
/-! #### repeated -/
/-- the steps, applied again and again -/
def runN (l : List Stp) : Nat → Int → Int
  | 0, n => n
  | k + 1, n => run l (runN l k n)
theorem runN_add (l : List Stp) (a b : Nat) (n : Int) : runN l (a + b) n = runN l a (runN l b n) := by
  induction a with
  | zero => rw [Nat.zero_add]; rfl
  | succ a ih => rw [Nat.succ_add]; show run l (runN l (a + b) n) = _; rw [ih]; rfl
theorem runN_size {B : Nat} {l : List Stp} {m : Nat} {n : Int} (hB : B ≤ m) (hl : ∀ s ∈ l, s.lt B) (hn : n.natAbs < 2 ^ m) : ∀ k, (runN l k n).natAbs < 2 ^ (m + 2 * l.length * k)
  | 0 => hn
  | k + 1 => by
    have ih := runN_size hB hl hn k
    have := run_size (l := l) (m := m + 2 * l.length * k) (by omega) hl ih
    rw [Nat.mul_succ, ← Nat.add_assoc]
    exact this
structure sp_repeated (C1 C2 C3 : Addr) (xs : List D) (M : Mp) (Q : DK) (E : XD) : Prop where
  ex : ∃ d e t, xs = [d, e, t] ∧ okT M d ∧ (tyD M e).isSome = true ∧ (tyD M t).isSome = true ∧ (∀ l n (k : Nat), d = stD l → e = .int n → t = .int k → k ≤ 300 → Q (.int (runN l k n)) M) ∧
    (isStepsD d = false → E (.ref C1) none M) ∧ (isStepsD d = true → isIntD e .non .non = false → E (.ref C2) none M) ∧ (isStepsD d = true → isIntD e .non .non = true → isIntD t (.int 0) (.int 300) = false → E (.ref C3) none M)
theorem len_repeated {C1 C2 C3 : Addr} (xs : List D) (M : Mp) (Q : DK) (E : XD) : sp_repeated C1 C2 C3 xs M Q E → xs.length = 3 := by
  rintro ⟨_, _, _, rfl, _⟩; rfl
theorem sp_repeated_ok {C1 C2 C3 : Addr} {l : List Stp} {n t : Int} (k : Nat) {M : Mp} {Q : DK} {E : XD} (e : t = k) (h : l.length ≤ 1000000) (hk : k ≤ 300) (q : Q (.int (runN l k n)) M) : sp_repeated C1 C2 C3 [stD l, .int n, .int t] M Q E := by
  subst e
  refine ⟨_, _, _, rfl, okT_st h, rfl, rfl, fun l' n' k' e1 e2 e3 _ => ?_, fun e => (by rw [isSteps_st] at e; cases e), fun _ e => (by simp [isIntD, leB, geB] at e), fun _ _ e => ?_⟩
  · rw [← stD_inj e1]
    injection e2 with e2
    injection e3 with e3
    rw [← e2, ← Int.ofNat.inj e3]
    exact q
  · simp [isIntD, leB, geB] at e
    omega
theorem isInt_bd {d : D} {a b : Int} (h : isIntD d (.int a) (.int b) = true) : ∃ n, d = .int n ∧ a ≤ n ∧ n ≤ b := by
  cases d with
  | int i =>
    simp [isIntD, leB, geB] at h
    exact ⟨i, rfl, h.1, h.2⟩
  | _ => simp [isIntD] at h
/-! #### _law_steps -/
structure sp__law_steps (xs : List D) (M : Mp) (Q : DK) (E : XD) : Prop where
  ex : ∃ (b : Addr) (most wide n : Int) (B : Nat) (l : List D), xs = [.ref b, .int most, .int wide] ∧ 0 ≤ most ∧ most ≤ 100 ∧ 1 ≤ wide ∧ wide < 2 ^ 200 ∧ 2 ≤ B ∧ wide < 2 ^ B ∧ M b = some (.lst l) ∧ Bar l n ∧ n < 2 ^ 59 ∧
    ∀ (sts : List Stp) l', (sts.length : Int) ≤ most → (∀ s ∈ sts, s.lt B) → Bar l' (n + 1000) → Q (stD sts) (mup M b (.lst l'))
theorem len__law_steps (xs : List D) (M : Mp) (Q : DK) (E : XD) : sp__law_steps xs M Q E → xs.length = 3 := by
  rintro ⟨_, _, _, _, _, _, rfl, _⟩; rfl
/-- a step with an integer below 2 ^ B, as data -/
def StpB (B : Nat) (d : D) : Prop := ∃ s : Stp, d = s.d ∧ s.lt B
theorem StpB.int {B : Nat} {k : Int} (h : k.natAbs < 2 ^ B) : StpB B (.int k) := ⟨.add k, rfl, h⟩
theorem StpB.mk {B : Nat} (m : Mk) : StpB B (.str m.st) := ⟨.mk m, rfl, trivial⟩
theorem two_of {B : Nat} {d e : D} {i : Int} (h0 : 0 ≤ i) (h1 : i < 2) (a : StpB B d) (b : StpB B e) : ∃ x, atI [d, e] i = some x ∧ StpB B x :=
  at_mem (xs := [d, e]) h0 h1 fun x hx => by
    simp only [List.mem_cons, List.not_mem_nil, or_false] at hx
    rcases hx with rfl | rfl
    · exact a
    · exact b
/-! #### size_in -/
theorem numL_head : ∀ (n : Nat), 1 ≤ n → (TL.numL n).head? ≠ some 48 := by
  intro n
  induction n using Nat.strongRecOn with
  | _ n ih =>
    intro h1
    by_cases h : n < 10
    · rw [TL.numL_lt h]
      simp
      omega
    · rw [TL.numL_step (by omega)]
      have := ih (n / 10) (by omega) (by omega)
      rw [List.head?_append]
      cases e : (TL.numL (n / 10)).head? with
      | none =>
        have := TL.numL_ne (n / 10)
        exact absurd (List.head?_eq_none_iff.mp e) this
      | some c => rw [e] at this; simpa using this
/-- a whole number without a sign, as it is written -/
def sizeL (w : List Nat) : Option Int := if w ≠ [] ∧ w.all (fun c => decide (48 ≤ c) && decide (c ≤ 57)) = true ∧ (w = [48] ∨ w.head? ≠ some 48) then some ((NumText.digitsVal w : Nat) : Int) else none
def optD : Option Int → D
  | some i => .int i
  | none => .non
theorem sizeL_num (n : Nat) : sizeL (TL.numL n) = some (n : Int) := by
  unfold sizeL
  rw [if_pos, TL.numL_val]
  refine ⟨TL.numL_ne n, List.all_eq_true.mpr fun c hc => ?_, ?_⟩
  · have := TL.numL_digits n c hc
    rw [Bool.and_eq_true, decide_eq_true_eq, decide_eq_true_eq]
    exact this
  · by_cases h : n = 0
    · subst h; left; rw [TL.numL_lt (by decide)]
    · exact .inr (numL_head n (by omega))
structure sp_size_in (xs : List D) (M : Mp) (Q : DK) (E : XD) : Prop where
  ex : ∃ (w : Str), xs = [.str w] ∧ w.length ≤ 640 ∧ Q (optD (sizeL w.cps.toList)) M
theorem len_size_in (xs : List D) (M : Mp) (Q : DK) (E : XD) : sp_size_in xs M Q E → xs.length = 1 := by
  rintro ⟨_, rfl, _⟩; rfl
theorem dig_in (c : Nat) : decide (c ∈ ("0123456789" : Str).cps.toList) = (decide (48 ≤ c) && decide (c ≤ 57)) := by
  have e : ("0123456789" : Str).cps.toList = [48, 49, 50, 51, 52, 53, 54, 55, 56, 57] := by decide +kernel
  rw [e, ← Bool.decide_and]
  refine decide_eq_decide.mpr ?_
  simp only [List.mem_cons, List.not_mem_nil, or_false]
  omega
/-! #### step_in -/
/-- a step, as it is written -/
def wordOf : Stp → Str
  | .mk m => m.st
  | .add k => (if k ≥ 0 then "+" else "" : Str) ++ (toString k : String)
def wordL : Stp → List Nat
  | .mk .c => [99]
  | .mk .s => [115]
  | .mk .f => [102]
  | .mk .t => [116]
  | .add (.ofNat n) => 43 :: TL.numL n
  | .add (.negSucc n) => 45 :: TL.numL (n + 1)
theorem tl_neg (n : Nat) : (Str.ofString (toString (Int.negSucc n))).cps.toList = 45 :: TL.numL (n + 1) := by
  rw [PyProof.Rows.signs_ofString]
  have e : toString (Int.negSucc n) = "-" ++ toString (n + 1) := rfl
  have h := TL.tl_num (n + 1)
  rw [TL.tl, PyProof.Rows.signs_ofString] at h
  rw [e, String.toList_append, List.map_append, ← h]
  rfl
theorem tl_word (s : Stp) : (wordOf s).cps.toList = wordL s := by
  cases s with
  | mk m => cases m <;> decide +kernel
  | add k =>
    cases k with
    | ofNat n =>
      show TL.tl ((if Int.ofNat n ≥ 0 then "+" else "" : Str) ++ (toString (Int.ofNat n) : String)) = _
      rw [if_pos (show Int.ofNat n ≥ 0 from Int.natCast_nonneg n), TL.tl_append]
      have h := TL.tl_num n
      show TL.tl "+" ++ TL.tl (Str.ofString (toString ((n : Nat) : Int))) = _
      rw [h]
      rfl
    | negSucc n =>
      show TL.tl ((if Int.negSucc n ≥ 0 then "+" else "" : Str) ++ (toString (Int.negSucc n) : String)) = _
      rw [if_neg (by omega), TL.tl_append]
      show TL.tl "" ++ (Str.ofString (toString (Int.negSucc n))).cps.toList = _
      rw [tl_neg]
      rfl
/-- the step that a word is -/
def stepL (w : List Nat) : Option Stp :=
  if w = [99] then some (.mk .c) else if w = [115] then some (.mk .s) else if w = [102] then some (.mk .f) else if w = [116] then some (.mk .t) else
  match w with
  | [] => none
  | c :: r => if c = 43 then (sizeL r).map .add else if c = 45 then (if r = [48] then none else (sizeL r).map fun n => .add (-n)) else none
theorem stepL_word (s : Stp) : stepL (wordL s) = some s := by
  cases s with
  | mk m => cases m <;> rfl
  | add k =>
    cases k with
    | ofNat n =>
      have := TL.numL_ne n
      show stepL (43 :: TL.numL n) = _
      unfold stepL
      simp [sizeL_num]
    | negSucc n =>
      show stepL (45 :: TL.numL (n + 1)) = _
      have h0 : TL.numL (n + 1) ≠ [48] := fun e => by
        have v := TL.numL_val (n + 1)
        rw [e] at v
        simp [NumText.digitsVal] at v
      unfold stepL
      simp [sizeL_num, h0]
      omega
theorem S_tl (z : Str) : SX.S z.cps.toList = z := rfl
theorem tl_cutF (z : Str) (k : Nat) : (cutS z (some (k : Int)) none).cps.toList = z.cps.toList.drop k := by
  rw [C8.cutS_slice]
  have h := SX.slice_from (a := z.cps.toList) (i := (k : Int)) (by omega)
  rw [S_tl] at h
  rw [h]
  rfl
theorem tl_cutT (z : Str) (k : Nat) : (cutS z none (some (k : Int))).cps.toList = z.cps.toList.take k := by
  rw [C8.cutS_slice]
  have h := SX.slice_to (a := z.cps.toList) (i := (k : Int)) (by omega)
  rw [S_tl] at h
  rw [h]
  rfl
theorem str_iff {w z : Str} : w = z ↔ w.cps.toList = z.cps.toList := ⟨fun e => by rw [e], fun e => TL.ext_tl e⟩
theorem mask_of {w : Str} (h : isMaskD (.str w) = true) : ∃ m : Mk, w = m.st := by
  obtain ⟨st, e⟩ := stp_of (d := .str w) (by simpa [isStepD, isIntD] using h)
  cases st with
  | add k => cases e
  | mk m => injection e with e; exact ⟨m, e⟩
def optS : Option Stp → D
  | some s => s.d
  | none => .non
structure sp_step_in (xs : List D) (M : Mp) (Q : DK) (E : XD) : Prop where
  ex : ∃ (w : Str), xs = [.str w] ∧ w.length ≤ 640 ∧ Q (optS (stepL w.cps.toList)) M
theorem len_step_in (xs : List D) (M : Mp) (Q : DK) (E : XD) : sp_step_in xs M Q E → xs.length = 1 := by
  rintro ⟨_, rfl, _⟩; rfl
/-! #### text_of -/
theorem len_word {s : Stp} (h : s.lt 1900) : (wordOf s).length ≤ 2000 := by
  cases s with
  | mk m => cases m <;> decide +kernel
  | add k =>
    have hl : k.natAbs.log2 < 1920 := by
      have h : k.natAbs < 2 ^ 1900 := h
      by_cases h0 : k.natAbs = 0
      · rw [h0]; decide
      · have := (Nat.log2_lt h0).mpr h
        omega
    have h1 := int_text_length_le (k := 1920) (by decide) hl
    show ((if k ≥ 0 then "+" else "" : Str) ++ (toString k : String)).length ≤ 2000
    rw [strLen_append, PySem.ofString_length]
    have : (if k ≥ 0 then "+" else "" : Str).length ≤ 1 := by split <;> decide
    omega
theorem wordL_small (s : Stp) : ∀ c ∈ wordL s, 43 ≤ c ∧ c ≤ 116 := by
  cases s with
  | mk m => cases m <;> decide
  | add k =>
    cases k with
    | ofNat n =>
      intro c hc
      rcases List.mem_cons.mp hc with rfl | hc
      · decide
      · have := TL.numL_digits n c hc; omega
    | negSucc n =>
      intro c hc
      rcases List.mem_cons.mp hc with rfl | hc
      · decide
      · have := TL.numL_digits (n + 1) c hc; omega
theorem word_ok (s : Stp) : PyData.strOk (wordOf s) = true := by
  unfold PyData.strOk
  rw [← Array.all_toList, tl_word, List.all_eq_true]
  intro c hc
  have := wordL_small s c hc
  exact decide_eq_true (by omega)
/-- the text of steps -/
def textOf (l : List Stp) : Str := if l = [] then "none" else Txt.join " " (l.map wordOf)
theorem pds_strs (M : Mp) : ∀ ws : List Str, pds M (ws.map D.str) = some (ws.map PyData.str)
  | [] => by rw [List.map_nil, pds]; rfl
  | w :: ws => by rw [List.map_cons, pds, pd, pds_strs M ws]; rfl
theorem shaped_strs {ws : List Str} (h : ∀ w ∈ ws, PyData.strOk w = true) : SeqAt.shaped (.list (ws.map PyData.str)) = true := by
  have h1 : ∀ ws : List Str, (∀ w ∈ ws, PyData.strOk w = true) → PyData.canLayAll0 (ws.map PyData.str) = true ∧ PyData.depthAll (ws.map PyData.str) = 0 := by
    intro ws
    induction ws with
    | nil => intro _; exact ⟨by simp [PyData.canLayAll0], by simp [PyData.depthAll]⟩
    | cons w ws ih =>
      intro h
      obtain ⟨i1, i2⟩ := ih fun x hx => h x (List.mem_cons_of_mem _ hx)
      rw [List.map_cons, PyData.canLayAll0, PyData.depthAll, i1, i2, PyData.canLay0, PyData.depth, h w List.mem_cons_self]
      exact ⟨rfl, rfl⟩
  obtain ⟨i1, i2⟩ := h1 ws h
  unfold SeqAt.shaped
  rw [PyData.canLay0, PyData.depth, i1, i2]
  rfl
structure sp_text_of (xs : List D) (M : Mp) (Q : DK) (E : XD) : Prop where
  ex : ∃ (l : List Stp), xs = [stD l] ∧ l.length ≤ 1000 ∧ (∀ s ∈ l, s.lt 1900) ∧ Q (.str (textOf l)) M
theorem len_text_of (xs : List D) (M : Mp) (Q : DK) (E : XD) : sp_text_of xs M Q E → xs.length = 1 := by
  rintro ⟨_, rfl, _⟩; rfl
theorem sum_words : ∀ {l : List Stp}, (∀ s ∈ l, s.lt 1900) → ((l.map wordOf).map (·.length)).sum ≤ l.length * 2000
  | [], _ => Nat.le_refl _
  | s :: l, h => by
    have h1 := len_word (h s List.mem_cons_self)
    have h2 := sum_words fun t ht => h t (List.mem_cons_of_mem _ ht)
    rw [List.map_cons, List.map_cons, List.sum_cons, List.length_cons, Nat.add_mul]
    omega
/-! #### show_steps -/
structure sp_show_steps (C1 : Addr) (xs : List D) (M : Mp) (Q : DK) (E : XD) : Prop where
  ex : ∃ d, xs = [d] ∧ okT M d ∧ (∀ l, d = stD l → l.length ≤ 1000 ∧ (∀ s ∈ l, s.lt 1900) ∧ Q (.str (textOf l)) M) ∧ (isStepsD d = false → E (.ref C1) none M)
theorem len_show_steps {C1 : Addr} (xs : List D) (M : Mp) (Q : DK) (E : XD) : sp_show_steps C1 xs M Q E → xs.length = 1 := by
  rintro ⟨_, rfl, _⟩; rfl
theorem sp_show_steps_ok {C1 : Addr} {l : List Stp} {M : Mp} {Q : DK} {E : XD} (h : l.length ≤ 1000) (hs : ∀ s ∈ l, s.lt 1900) (q : Q (.str (textOf l)) M) : sp_show_steps C1 [stD l] M Q E :=
  ⟨_, rfl, okT_st (by omega), fun l' e => by rw [← stD_inj e]; exact ⟨h, hs, q⟩, fun e => by rw [isSteps_st] at e; cases e⟩
/-! #### read_steps -/
def optV : Option Stp → V
  | none => .non
  | some (.add k) => .int k
  | some (.mk m) => .str m.st
theorem vSs_opt : ∀ os : List (Option Stp), vSs (os.map optS) = some (os.map optV)
  | [] => rfl
  | o :: os => by
    rw [List.map_cons, vSs, vSs_opt os]
    cases o with
    | none => rfl
    | some s => cases s <;> rfl
theorem inV_opt : ∀ os : List (Option Stp), L2.inV .non (os.map optV) = os.any (·.isNone)
  | [] => rfl
  | o :: os => by
    show (eqV (optV o) .non || L2.inV .non (os.map optV)) = _
    rw [inV_opt os, List.any_cons]
    cases o with
    | none => rfl
    | some s => cases s <;> rfl
theorem all_some : ∀ {os : List (Option Stp)}, os.any (·.isNone) = false → os = (os.filterMap id).map some
  | [], _ => rfl
  | none :: os, h => by simp at h
  | some s :: os, h => by
    have : os.any (·.isNone) = false := by simpa using h
    show some s :: os = some s :: (os.filterMap id).map some
    rw [← all_some this]
/-- the words of a text, as steps or not -/
def wordsO (t : List Nat) : List (Option Stp) := (TL.spl [32] 0 [] t).map stepL
/-- the steps that a text is -/
def readL (t : List Nat) : Option (List Stp) := if t = [110, 111, 110, 101] then some [] else if (wordsO t).any (·.isNone) = true then none else some ((wordsO t).filterMap id)
theorem tl_join (ws : List Str) : (Txt.join " " ws).cps.toList = TL.joinL [32] (ws.map (fun w => w.cps.toList)) := by
  have h := SX.join_S [32] (ws.map (fun w => w.cps.toList))
  have e1 : SX.S [32] = " " := by decide +kernel
  have e2 : (ws.map (fun w => w.cps.toList)).map SX.S = ws := by
    rw [List.map_map]
    exact (List.map_congr_left fun w _ => S_tl w).trans (List.map_id _)
  rw [e1, e2] at h
  rw [h]
theorem joinL_head {S p : List Nat} {r : List (List Nat)} (h : p ≠ []) : (TL.joinL S (p :: r)).head? = p.head? := by
  cases p with
  | nil => exact absurd rfl h
  | cons c q => cases r <;> rfl
theorem wordL_ne (s : Stp) : wordL s ≠ [] := by
  cases s with
  | mk m => cases m <;> simp [wordL]
  | add k => cases k <;> simp [wordL]
theorem wordL_110 (s : Stp) : (wordL s).head? ≠ some 110 := by
  cases s with
  | mk m => cases m <;> simp [wordL]
  | add k => cases k <;> simp [wordL]
theorem tl_text {l : List Stp} (h : l ≠ []) : (textOf l).cps.toList = TL.joinL [32] (l.map wordL) := by
  unfold textOf
  rw [if_neg h, tl_join, List.map_map]
  exact congrArg _ (List.map_congr_left fun s _ => tl_word s)
theorem spl_text {l : List Stp} (h : l ≠ []) : TL.spl [32] 0 [] (textOf l).cps.toList = l.map wordL := by
  rw [tl_text h]
  exact SX.spl_join (by simpa using h) fun p hp => by
    obtain ⟨s, _, rfl⟩ := List.mem_map.mp hp
    intro z
    have := wordL_small s 32 z
    omega
theorem none_any (l : List Stp) : (l.map some : List (Option Stp)).any (·.isNone) = false := by
  induction l with
  | nil => rfl
  | cons s l ih => rw [List.map_cons, List.any_cons, ih]; rfl
theorem fm_some (l : List Stp) : (l.map some : List (Option Stp)).filterMap id = l := by
  induction l with
  | nil => rfl
  | cons s l ih => show s :: (l.map some : List (Option Stp)).filterMap id = _; rw [ih]
theorem readL_text (l : List Stp) : readL (textOf l).cps.toList = some l := by
  by_cases h : l = []
  · subst h
    have e : (textOf []).cps.toList = [110, 111, 110, 101] := by decide +kernel
    rw [e]; rfl
  · have hw : wordsO (textOf l).cps.toList = l.map some := by
      rw [wordsO, spl_text h, List.map_map]
      exact List.map_congr_left fun s _ => stepL_word s
    unfold readL
    rw [if_neg, hw, if_neg, fm_some]
    · rw [none_any]; decide
    · rw [tl_text h]
      cases l with
      | nil => exact absurd rfl h
      | cons s l =>
        intro z
        have e := joinL_head (S := [32]) (r := l.map wordL) (wordL_ne s)
        rw [List.map_cons] at z
        rw [z] at e
        exact wordL_110 s e.symm
structure sp_read_steps (C1 : Addr) (xs : List D) (M : Mp) (Q : DK) (E : XD) : Prop where
  ex : ∃ d, xs = [d] ∧ (tyD M d).isSome = true ∧ (∀ t, d = .str t → t.length ≤ 100000 ∧ (∀ w ∈ TL.spl [32] 0 [] t.cps.toList, w.length ≤ 640) ∧ (TL.spl [32] 0 [] t.cps.toList).length ≤ 100000 ∧ (∀ l, readL t.cps.toList = some l → Q (stD l) M) ∧ (readL t.cps.toList = none → E (.ref C1) none M)) ∧
    ((∀ t, d ≠ .str t) → E (.ref C1) none M)
theorem len_read_steps {C1 : Addr} (xs : List D) (M : Mp) (Q : DK) (E : XD) : sp_read_steps C1 xs M Q E → xs.length = 1 := by
  rintro ⟨_, rfl, _⟩; rfl
theorem sp_read_steps_ok {C1 : Addr} {l : List Stp} {M : Mp} {Q : DK} {E : XD} (h : l.length ≤ 40) (hs : ∀ s ∈ l, s.lt 1900 ∧ (wordOf s).length ≤ 640) (q : Q (stD l) M) : sp_read_steps C1 [.str (textOf l)] M Q E := by
  have len_tl : ∀ z : Str, z.cps.toList.length = z.length := fun z => by simp [Str.length]
  refine ⟨_, rfl, rfl, fun t e => ?_, fun e => absurd rfl (e _)⟩
  cases e
  rw [readL_text]
  by_cases h0 : l = []
  · subst h0
    refine ⟨by decide +kernel, ?_, by decide +kernel, fun l e => (by cases e; exact q), fun e => nomatch e⟩
    have e : TL.spl [32] 0 [] (textOf []).cps.toList = [[110, 111, 110, 101]] := by decide +kernel
    rw [e]
    intro w hw
    rw [List.mem_singleton.mp hw]
    decide
  · rw [spl_text h0]
    refine ⟨?_, fun w hw => ?_, by rw [List.length_map]; omega, fun l e => (by cases e; exact q), fun e => nomatch e⟩
    · rw [← len_tl, tl_text h0]
      have key : ∀ l : List Stp, (∀ s ∈ l, (wordOf s).length ≤ 640) → (TL.joinL [32] (l.map wordL)).length ≤ l.length * 641 := by
        intro l
        induction l with
        | nil => intro _; exact Nat.le_refl _
        | cons s l ih =>
          intro h
          have h1 := h s List.mem_cons_self
          rw [← len_tl, tl_word] at h1
          have h2 := ih fun t ht => h t (List.mem_cons_of_mem _ ht)
          cases l with
          | nil => show (wordL s).length ≤ _; simp; omega
          | cons t r =>
            show (wordL s ++ ([32] ++ TL.joinL [32] ((t :: r).map wordL))).length ≤ _
            have e : (s :: t :: r).length = (t :: r).length + 1 := rfl
            rw [List.length_append, List.length_append, e, Nat.add_mul]
            have : ([32] : List Nat).length = 1 := rfl
            omega
      have := key l fun s hs' => (hs s hs').2
      omega
    · obtain ⟨s, hs', rfl⟩ := List.mem_map.mp hw
      rw [← tl_word, len_tl]
      exact (hs s hs').2
/-! #### _law_text -/
theorem mul1 : MulOk "+" 1 := ⟨by decide +kernel, by decide +kernel, by decide +kernel⟩
theorem mul0 : MulOk "+" 0 := ⟨by decide +kernel, by decide +kernel, by decide +kernel⟩
theorem len_word100 {s : Stp} (h : s.lt 100) : (wordOf s).length ≤ 640 := by
  cases s with
  | mk m => cases m <;> decide +kernel
  | add k =>
    have hl : k.natAbs.log2 < 100 := by
      have h : k.natAbs < 2 ^ 100 := h
      by_cases h0 : k.natAbs = 0
      · rw [h0]; decide
      · exact (Nat.log2_lt h0).mpr h
    have h1 := int_text_length_le (k := 100) (by decide) hl
    show ((if k ≥ 0 then "+" else "" : Str) ++ (toString k : String)).length ≤ 640
    rw [strLen_append, PySem.ofString_length]
    have : (if k ≥ 0 then "+" else "" : Str).length ≤ 1 := by split <;> decide
    omega
theorem lt_all {l : List Stp} (h : (l.all fun s => match s with | .add k => decide (k.natAbs < 1000000) | .mk _ => true) = true) : ∀ s ∈ l, s.lt 100 := fun s hs => by
  have := List.all_eq_true.mp h s hs
  cases s with
  | add k =>
    have h1 : k.natAbs < 1000000 := of_decide_eq_true this
    exact Nat.lt_trans h1 (by decide)
  | mk m => trivial
theorem joinL_mem {S : List Nat} {c : Nat} : ∀ {ws : List (List Nat)}, c ∈ TL.joinL S ws → c ∈ S ∨ ∃ w ∈ ws, c ∈ w
  | [], h => nomatch h
  | [w], h => .inr ⟨w, List.mem_cons_self, h⟩
  | w :: v :: r, h => by
    rcases List.mem_append.mp (show c ∈ w ++ (S ++ TL.joinL S (v :: r)) from h) with h | h
    · exact .inr ⟨w, List.mem_cons_self, h⟩
    · rcases List.mem_append.mp h with h | h
      · exact .inl h
      · rcases joinL_mem h with h | ⟨x, hx, h⟩
        · exact .inl h
        · exact .inr ⟨x, List.mem_cons_of_mem _ hx, h⟩
theorem text_small (l : List Stp) : ∀ c ∈ (textOf l).cps.toList, c ≤ 116 := by
  intro c hc
  by_cases h : l = []
  · subst h
    have e : (textOf []).cps.toList = [110, 111, 110, 101] := by decide +kernel
    rw [e] at hc
    simp at hc
    omega
  · rw [tl_text h] at hc
    rcases joinL_mem hc with h | ⟨w, hw, h⟩
    · simp at h; omega
    · obtain ⟨s, _, rfl⟩ := List.mem_map.mp hw
      exact (wordL_small s c h).2
theorem joinL_len {ws : List (List Nat)} {n : Nat} (h : ∀ w ∈ ws, w.length ≤ n) : (TL.joinL [32] ws).length ≤ ws.length * (n + 1) := by
  induction ws with
  | nil => exact Nat.zero_le _
  | cons w ws ih =>
    have h1 := h w List.mem_cons_self
    have h2 := ih fun t ht => h t (List.mem_cons_of_mem _ ht)
    cases ws with
    | nil =>
      show w.length ≤ ([w] : List (List Nat)).length * (n + 1)
      have e : ([w] : List (List Nat)).length = 1 := rfl
      rw [e, Nat.one_mul]
      omega
    | cons v r =>
      show (w ++ ([32] ++ TL.joinL [32] (v :: r))).length ≤ _
      have e : (w :: v :: r).length = (v :: r).length + 1 := rfl
      rw [List.length_append, List.length_append, e, Nat.add_mul]
      have : ([32] : List Nat).length = 1 := rfl
      omega
theorem text_len {l : List Stp} {n : Nat} (h : ∀ s ∈ l, (wordOf s).length ≤ n) : (textOf l).length ≤ l.length * (n + 1) + 4 := by
  have len_tl : ∀ z : Str, z.cps.toList.length = z.length := fun z => by simp [Str.length]
  by_cases h0 : l = []
  · subst h0
    have e : (textOf []).length = 4 := by decide +kernel
    rw [e]; exact Nat.le_add_left _ _
  · rw [← len_tl, tl_text h0]
    have := joinL_len (ws := l.map wordL) (n := n) fun w hw => by
      obtain ⟨s, hs, rfl⟩ := List.mem_map.mp hw
      rw [← tl_word, len_tl]
      exact h s hs
    rw [List.length_map] at this
    omega
theorem textOf_inj {a b : List Stp} (h : textOf a = textOf b) : a = b := by
  have h1 := readL_text a
  rw [h, readL_text b] at h1
  exact (Option.some.inj h1).symm
theorem eqv_step (s t : Stp) : PyData.eqv s.pd t.pd = decide (s = t) := by
  cases s with
  | add k =>
    cases t with
    | add k' =>
      show PyData.eqv (.int k) (.int k') = _
      rw [PyData.eqv]
      by_cases h : k = k'
      · subst h; simp
      · simp [h]
    | mk m => simp [Stp.pd, PyData.eqv]
  | mk m =>
    cases t with
    | add k' => simp [Stp.pd, PyData.eqv]
    | mk m' => cases m <;> cases m' <;> decide +kernel
theorem eqvAll_steps : ∀ a b : List Stp, PyData.eqvAll (a.map Stp.pd) (b.map Stp.pd) = decide (a = b)
  | [], [] => by simp [PyData.eqvAll]
  | [], _ :: _ => by simp [PyData.eqvAll]
  | _ :: _, [] => by simp [PyData.eqvAll]
  | s :: a, t :: b => by
    rw [List.map_cons, List.map_cons, PyData.eqvAll, eqv_step, eqvAll_steps a b, ← Bool.decide_and]
    exact decide_eq_decide.mpr (by simp)
theorem eqv_steps (a b : List Stp) : PyData.eqv (.tuple (a.map Stp.pd)) (.tuple (b.map Stp.pd)) = decide (a = b) := by
  rw [PyData.eqv]; exact eqvAll_steps a b
structure sp__law_text (xs : List D) (M : Mp) (Q : DK) (E : XD) : Prop where
  ex : ∃ (l : List Stp), xs = [stD l] ∧ l.length ≤ 1000 ∧ (∀ s ∈ l, s.lt 1900) ∧ Q (.str (textOf l)) M
theorem len__law_text (xs : List D) (M : Mp) (Q : DK) (E : XD) : sp__law_text xs M Q E → xs.length = 1 := by
  rintro ⟨_, rfl, _⟩; rfl
theorem sp__law_text_ok {l : List Stp} {M : Mp} {Q : DK} {E : XD} (h : l.length ≤ 1000) (hs : ∀ s ∈ l, s.lt 1900) (q : Q (.str (textOf l)) M) : sp__law_text [stD l] M Q E := ⟨l, rfl, h, hs, q⟩
/-! #### start_of -/
/-- the index of a mask, the mask, the integer behind it -/
abbrev Part := Nat × Mk × Int
def partD (p : Part) : D := .tup [.int (p.1 : Nat), .str p.2.1.st, .int p.2.2]
/-- the integer ahead, the parts -/
abbrev Sta := Int × List Part
def staD (s : Sta) : D := .tup [.int s.1, .tup (s.2.map partD)]
/-- an integer added behind the last part -/
def addL (f : List Part) (x : Int) : List Part := f.dropLast ++ f.getLast?.toList.map fun p => (p.1, p.2.1, p.2.2 + x)
theorem addL_snoc (g : List Part) (p : Part) (x : Int) : addL (g ++ [p]) x = g ++ [(p.1, p.2.1, p.2.2 + x)] := by
  unfold addL
  simp
theorem snoc_of {f : List Part} (h : f.isEmpty = false) : ∃ g p, f = g ++ [p] := by
  rcases List.eq_nil_or_concat f with rfl | ⟨g, p, rfl⟩
  · simp at h
  · exact ⟨g, p, by simp⟩
theorem addL_len {f : List Part} {x : Int} : (addL f x).length = f.length := by
  cases h : f.isEmpty with
  | true => rw [List.isEmpty_iff.mp h]; rfl
  | false =>
    obtain ⟨g, p, rfl⟩ := snoc_of h
    rw [addL_snoc]; simp
def stA : Nat → Int → List Part → List Stp → Sta
  | _, sh, ps, [] => (sh, ps)
  | i, sh, ps, .mk m :: r => stA (i + 1) sh (ps ++ [(i, m, 0)]) r
  | i, sh, ps, .add k :: r => if ps.isEmpty = true then stA (i + 1) (sh + k) ps r else stA (i + 1) sh (addL ps k) r
def startOf (l : List Stp) : Sta := stA 0 0 [] l
def pv : List Part → Int → Int
  | [], n => n
  | p :: r, n => pv r (p.2.1.ap n + p.2.2)
/-- what a state makes of a number -/
def sv (s : Sta) (n : Int) : Int := pv s.2 (n + s.1)
theorem pv_append : ∀ (f g : List Part) (n : Int), pv (f ++ g) n = pv g (pv f n)
  | [], _, _ => rfl
  | _ :: f, g, _ => pv_append f g _
theorem pv_addL {f : List Part} (h : f.isEmpty = false) (x n : Int) : pv (addL f x) n = pv f n + x := by
  obtain ⟨g, p, rfl⟩ := snoc_of h
  rw [addL_snoc, pv_append, pv_append]
  show p.2.1.ap (pv g n) + (p.2.2 + x) = p.2.1.ap (pv g n) + p.2.2 + x
  omega
theorem sv_stA : ∀ (l : List Stp) (i : Nat) (sh : Int) (ps : List Part) (n : Int), sv (stA i sh ps l) n = run l (pv ps (n + sh))
  | [], _, _, _, _ => rfl
  | .mk m :: r, i, sh, ps, n => by
    rw [stA, sv_stA r, pv_append, run_cons]
    show run r (m.ap (pv ps (n + sh)) + 0) = run r (m.ap (pv ps (n + sh)))
    rw [Int.add_zero]
  | .add k :: r, i, sh, ps, n => by
    rw [stA, run_cons]
    split
    · rename_i h
      rw [sv_stA r, List.isEmpty_iff.mp h]
      show run r (n + (sh + k)) = run r (n + sh + k)
      rw [Int.add_assoc]
    · rename_i h
      rw [sv_stA r, pv_addL (by simpa using h)]
      rfl
theorem sv_start (l : List Stp) (n : Int) : sv (startOf l) n = run l n := by
  rw [startOf, sv_stA]
  show run l (n + 0) = _
  rw [Int.add_zero]
theorem stA_len : ∀ (l : List Stp) (i : Nat) (sh : Int) (ps : List Part), (stA i sh ps l).2.length ≤ ps.length + l.length
  | [], _, _, _ => Nat.le_refl _
  | .mk m :: r, i, sh, ps => by
    have := stA_len r (i + 1) sh (ps ++ [(i, m, 0)])
    rw [stA, List.length_cons]
    simp at this
    omega
  | .add k :: r, i, sh, ps => by
    rw [stA, List.length_cons]
    split
    · have := stA_len r (i + 1) (sh + k) ps
      omega
    · have := stA_len r (i + 1) sh (addL ps k)
      rw [addL_len] at this
      omega
structure sp_start_of (xs : List D) (M : Mp) (Q : DK) (E : XD) : Prop where
  ex : ∃ (l : List Stp), xs = [stD l] ∧ l.length ≤ 1000000 ∧ Q (staD (startOf l)) M
theorem len_start_of (xs : List D) (M : Mp) (Q : DK) (E : XD) : sp_start_of xs M Q E → xs.length = 1 := by
  rintro ⟨_, rfl, _⟩; rfl
theorem sp_start_of_ok {l : List Stp} {M : Mp} {Q : DK} {E : XD} (h : l.length ≤ 1000000) (q : Q (staD (startOf l)) M) : sp_start_of [stD l] M Q E := ⟨l, rfl, h, q⟩
theorem pd_part (M : Mp) (p : Part) : pd M (partD p) = some (.tuple [.int p.1, .str p.2.1.st, .int p.2.2]) := by
  rw [partD, pd, pds, pd, pds, pd, pds, pd, pds]; rfl
def partP (p : Part) : PyData := .tuple [.int p.1, .str p.2.1.st, .int p.2.2]
theorem pds_parts (M : Mp) : ∀ ps : List Part, pds M (ps.map partD) = some (ps.map partP)
  | [] => by rw [List.map_nil, pds]; rfl
  | p :: ps => by rw [List.map_cons, pds, pd_part, pds_parts M ps]; rfl
theorem mk_strOk (m : Mk) : PyData.strOk m.st = true := by cases m <;> decide +kernel
theorem lay_parts : ∀ ps : List Part, PyData.canLayAll0 (ps.map partP) = true ∧ PyData.depthAll (ps.map partP) ≤ 1
  | [] => ⟨by simp [PyData.canLayAll0], by simp [PyData.depthAll]⟩
  | p :: ps => by
    obtain ⟨h1, h2⟩ := lay_parts ps
    refine ⟨?_, ?_⟩
    · rw [List.map_cons, PyData.canLayAll0, h1, partP]
      simp [PyData.canLay0, PyData.canLayAll0, mk_strOk]
    · rw [List.map_cons, PyData.depthAll, partP]
      simp [PyData.depth, PyData.depthAll]
      omega
theorem shaped_parts (ps : List Part) : SeqAt.shaped (.list (ps.map partP)) = true := by
  obtain ⟨h1, h2⟩ := lay_parts ps
  unfold SeqAt.shaped
  rw [PyData.canLay0, PyData.depth, h1, Bool.true_and]
  exact decide_eq_true (by omega)
theorem eqv_nil (ps : List Part) : PyData.eqv (.list (ps.map partP)) (.list []) = ps.isEmpty := by
  cases ps with
  | nil => rfl
  | cons p ps => rfl
theorem ix_last {n : Nat} : ixN (n + 1) (-1) = some n := by
  unfold ixN
  simp
  omega
theorem at_last {α : Type} (g : List α) (x : α) : atI (g ++ [x]) (-1) = some x := by
  unfold atI
  rw [List.length_append, List.length_singleton, ix_last]
  simp
theorem set_last {α : Type} (g : List α) (x y : α) : (g ++ [x]).set g.length y = g ++ [y] := by simp
theorem pdT_ref {M : Mp} {a : Addr} {ds : List D} {ps : List PyData} (h : M a = some (.lst ds)) (h2 : pds M ds = some ps) : pdT M (.ref a) = some (.list ps) := by
  show (match M a with | some (.lst ds) => (pds M ds).map PyData.list | _ => none) = _
  rw [h]
  show (pds M ds).map PyData.list = _
  rw [h2]; rfl
/-! #### read_bit -/
/-- one bit is read by what is left of the parts: the signal, the integer ahead, the parts that are found -/
def rdA : Int → Int → List Part → List Part → Int × Int × List Part
  | sg, ah, f, [] => (sg, ah, f)
  | sg, ah, f, p :: r =>
    if sg = p.2.1.trig then
      (if f.isEmpty = true then rdA ((p.2.2 + p.2.1.wr) % 2) (ah + (p.2.2 + p.2.1.wr) / 2) f r else rdA ((p.2.2 + p.2.1.wr) % 2) ah (addL f ((p.2.2 + p.2.1.wr) / 2)) r)
    else rdA ((p.2.2 + p.2.1.wr) % 2) ah (f ++ [(p.1, p.2.1, (p.2.2 + p.2.1.wr) / 2)]) r
def rdB (s : Sta) (b : Int) : Int × Sta :=
  let t := rdA ((s.1 + b) % 2) ((s.1 + b) / 2) [] s.2
  (t.1, t.2.1, t.2.2)
theorem rdA_val (n : Int) : ∀ (r : List Part) (sg ah : Int) (f : List Part), (sg = 0 ∨ sg = 1) →
    pv r (2 * pv f (n + ah) + sg) = 2 * pv (rdA sg ah f r).2.2 (n + (rdA sg ah f r).2.1) + (rdA sg ah f r).1 ∧ ((rdA sg ah f r).1 = 0 ∨ (rdA sg ah f r).1 = 1)
  | [], sg, ah, f, h => ⟨rfl, h⟩
  | p :: r, sg, ah, f, h => by
    have hb := p.2.1.ap_bit (2 * pv f (n + ah) + sg)
    have e1 : (2 * pv f (n + ah) + sg) % 2 = sg := by omega
    have e2 : (2 * pv f (n + ah) + sg) / 2 = pv f (n + ah) := by omega
    rw [e1, e2] at hb
    have hs : (p.2.2 + p.2.1.wr) % 2 = 0 ∨ (p.2.2 + p.2.1.wr) % 2 = 1 := by omega
    show pv r (p.2.1.ap (2 * pv f (n + ah) + sg) + p.2.2) = _ ∧ _
    rw [rdA]
    by_cases ht : sg = p.2.1.trig
    · rw [if_pos ht] at hb ⊢
      by_cases he : f.isEmpty = true
      · rw [if_pos he]
        have ih := rdA_val n r ((p.2.2 + p.2.1.wr) % 2) (ah + (p.2.2 + p.2.1.wr) / 2) f hs
        rw [List.isEmpty_iff.mp he] at ih hb ⊢
        refine ⟨?_, ih.2⟩
        rw [← ih.1, hb]
        show pv r (2 * (n + ah) + p.2.1.wr + p.2.2) = pv r (2 * (n + (ah + (p.2.2 + p.2.1.wr) / 2)) + (p.2.2 + p.2.1.wr) % 2)
        congr 1
        omega
      · rw [if_neg he]
        have ih := rdA_val n r ((p.2.2 + p.2.1.wr) % 2) ah (addL f ((p.2.2 + p.2.1.wr) / 2)) hs
        refine ⟨?_, ih.2⟩
        rw [← ih.1, hb, pv_addL (by simpa using he)]
        congr 1
        omega
    · rw [if_neg ht] at hb ⊢
      have ih := rdA_val n r ((p.2.2 + p.2.1.wr) % 2) ah (f ++ [(p.1, p.2.1, (p.2.2 + p.2.1.wr) / 2)]) hs
      refine ⟨?_, ih.2⟩
      rw [← ih.1, hb, pv_append]
      show pv r _ = pv r (2 * (p.2.1.ap (pv f (n + ah)) + (p.2.2 + p.2.1.wr) / 2) + _)
      congr 1
      omega
/-- a bit and a number above it: the written bit, and what the state behind makes of the number above -/
theorem rdB_val (s : Sta) (b n : Int) : sv s (2 * n + b) = 2 * sv (rdB s b).2 n + (rdB s b).1 := by
  have h := (rdA_val n s.2 ((s.1 + b) % 2) ((s.1 + b) / 2) [] (by omega)).1
  show pv s.2 (2 * n + b + s.1) = 2 * pv (rdA _ _ [] s.2).2.2 (n + (rdA _ _ [] s.2).2.1) + (rdA _ _ [] s.2).1
  rw [← h]
  show _ = pv s.2 (2 * (n + (s.1 + b) / 2) + (s.1 + b) % 2)
  congr 1
  omega
theorem rdB_bit (s : Sta) (b : Int) : (rdB s b).1 = 0 ∨ (rdB s b).1 = 1 := (rdA_val 0 s.2 ((s.1 + b) % 2) ((s.1 + b) / 2) [] (by omega)).2
theorem rdA_len : ∀ (r : List Part) (sg ah : Int) (f : List Part), (rdA sg ah f r).2.2.length ≤ f.length + r.length
  | [], _, _, _ => Nat.le_refl _
  | p :: r, sg, ah, f => by
    rw [rdA, List.length_cons]
    split
    · split
      · have := rdA_len r ((p.2.2 + p.2.1.wr) % 2) (ah + (p.2.2 + p.2.1.wr) / 2) f; omega
      · have := rdA_len r ((p.2.2 + p.2.1.wr) % 2) ah (addL f ((p.2.2 + p.2.1.wr) / 2))
        rw [addL_len] at this
        omega
    · have := rdA_len r ((p.2.2 + p.2.1.wr) % 2) ah (f ++ [(p.1, p.2.1, (p.2.2 + p.2.1.wr) / 2)])
      simp at this
      omega
theorem rdB_len (s : Sta) (b : Int) : (rdB s b).2.2.length ≤ s.2.length := by
  have := rdA_len s.2 ((s.1 + b) % 2) ((s.1 + b) / 2) []
  show (rdA ((s.1 + b) % 2) ((s.1 + b) / 2) [] s.2).2.2.length ≤ s.2.length
  simpa using this
theorem trig_get (m : Mk) : tab_TRIGGERS.lookup m.st = some (.int m.trig) := by cases m <;> rfl
theorem wr_get (m : Mk) : tab_WRITTEN_BITS.lookup m.st = some (.int m.wr) := by cases m <;> rfl
structure sp_read_bit (xs : List D) (M : Mp) (Q : DK) (E : XD) : Prop where
  ex : ∃ (s : Sta) (b : Int), xs = [staD s, .int b] ∧ s.2.length ≤ 1000000 ∧ Q (.tup [.int (rdB s b).1, staD (rdB s b).2]) M
theorem len_read_bit (xs : List D) (M : Mp) (Q : DK) (E : XD) : sp_read_bit xs M Q E → xs.length = 2 := by
  rintro ⟨_, _, rfl, _⟩; rfl
theorem sp_read_bit_ok {s : Sta} {b : Int} {M : Mp} {Q : DK} {E : XD} (h : s.2.length ≤ 1000000) (q : Q (.tup [.int (rdB s b).1, staD (rdB s b).2]) M) : sp_read_bit [staD s, .int b] M Q E := ⟨s, b, rfl, h, q⟩
/-! #### steps_of -/
/-- a state's steps, not merged -/
def staL (s : Sta) : List Stp := .add s.1 :: s.2.flatMap fun p => [.mk p.2.1, .add p.2.2]
theorem run_staL (s : Sta) (n : Int) : run (staL s) n = sv s n := by
  have key : ∀ (ps : List Part) (n : Int), run (ps.flatMap fun p => [Stp.mk p.2.1, .add p.2.2]) n = pv ps n := by
    intro ps
    induction ps with
    | nil => intro n; rfl
    | cons p ps ih =>
      intro n
      rw [List.flatMap_cons, run_append, ih]
      rfl
  show run (s.2.flatMap _) (n + s.1) = pv s.2 (n + s.1)
  exact key _ _
theorem staL_len (s : Sta) : (staL s).length = 1 + 2 * s.2.length := by
  have key : ∀ ps : List Part, (ps.flatMap fun p => [Stp.mk p.2.1, .add p.2.2]).length = 2 * ps.length := by
    intro ps
    induction ps with
    | nil => rfl
    | cons p ps ih => rw [List.flatMap_cons, List.length_append, ih, List.length_cons]; simp; omega
  show (s.2.flatMap _).length + 1 = _
  rw [key]; omega
def stepsOf (s : Sta) : List Stp := mgd (staL s)
theorem run_stepsOf (s : Sta) (n : Int) : run (stepsOf s) n = sv s n := by rw [stepsOf, run_mgd, run_staL]
structure sp_steps_of (xs : List D) (M : Mp) (Q : DK) (E : XD) : Prop where
  ex : ∃ (s : Sta), xs = [staD s] ∧ s.2.length ≤ 100000 ∧ Q (stD (stepsOf s)) M
theorem len_steps_of (xs : List D) (M : Mp) (Q : DK) (E : XD) : sp_steps_of xs M Q E → xs.length = 1 := by
  rintro ⟨_, rfl, _⟩; rfl
theorem sp_steps_of_ok {s : Sta} {M : Mp} {Q : DK} {E : XD} (h : s.2.length ≤ 100000) (q : Q (stD (stepsOf s)) M) : sp_steps_of [staD s] M Q E := ⟨s, rfl, h, q⟩
/-! #### ends_of -/
/-- the masks with the values that reach them -/
def insV : Int → List Part → List (Nat × Mk × Int)
  | _, [] => []
  | v, p :: r => (p.1, p.2.1, v) :: insV (p.2.1.ap v + p.2.2) r
theorem insV_append : ∀ (f g : List Part) (v : Int), insV v (f ++ g) = insV v f ++ insV (pv f v) g
  | [], _, _ => rfl
  | p :: f, g, v => by
    show (p.1, p.2.1, v) :: insV _ (f ++ g) = (p.1, p.2.1, v) :: (insV _ f ++ insV (pv f _) g)
    rw [insV_append f g]
theorem insV_addL {f : List Part} (h : f.isEmpty = false) (x v : Int) : insV v (addL f x) = insV v f := by
  obtain ⟨g, p, rfl⟩ := snoc_of h
  rw [addL_snoc, insV_append, insV_append]
  rfl
/-- a mask that listens goes on with the next bit -/
def goOn (t : Nat × Mk × Int) : Option (Nat × Mk × Int) := if t.2.2 % 2 = t.2.1.trig then none else some (t.1, t.2.1, t.2.2 / 2)
theorem rdA_ins (n : Int) : ∀ (r : List Part) (sg ah : Int) (f : List Part), (sg = 0 ∨ sg = 1) →
    insV (n + (rdA sg ah f r).2.1) (rdA sg ah f r).2.2 = insV (n + ah) f ++ (insV (2 * pv f (n + ah) + sg) r).filterMap goOn
  | [], sg, ah, f, _ => by
    show insV (n + ah) f = insV (n + ah) f ++ []
    rw [List.append_nil]
  | p :: r, sg, ah, f, h => by
    have hb := p.2.1.ap_bit (2 * pv f (n + ah) + sg)
    have e1 : (2 * pv f (n + ah) + sg) % 2 = sg := by omega
    have e2 : (2 * pv f (n + ah) + sg) / 2 = pv f (n + ah) := by omega
    rw [e1, e2] at hb
    have hs : (p.2.2 + p.2.1.wr) % 2 = 0 ∨ (p.2.2 + p.2.1.wr) % 2 = 1 := by omega
    rw [rdA]
    show _ = insV (n + ah) f ++ ((p.1, p.2.1, 2 * pv f (n + ah) + sg) :: insV (p.2.1.ap (2 * pv f (n + ah) + sg) + p.2.2) r).filterMap goOn
    rw [List.filterMap_cons]
    have eg : goOn (p.1, p.2.1, 2 * pv f (n + ah) + sg) = if sg = p.2.1.trig then none else some (p.1, p.2.1, pv f (n + ah)) := by
      unfold goOn
      simp only [e1, e2]
    rw [eg]
    by_cases ht : sg = p.2.1.trig
    · rw [if_pos ht] at hb
      rw [if_pos ht, if_pos ht]
      by_cases he : f.isEmpty = true
      · rw [if_pos he]
        have ih := rdA_ins n r ((p.2.2 + p.2.1.wr) % 2) (ah + (p.2.2 + p.2.1.wr) / 2) f hs
        rw [ih, hb, List.isEmpty_iff.mp he]
        show [] ++ _ = [] ++ _
        congr 3
        show 2 * (n + (ah + (p.2.2 + p.2.1.wr) / 2)) + (p.2.2 + p.2.1.wr) % 2 = 2 * (n + ah) + p.2.1.wr + p.2.2
        omega
      · rw [if_neg he]
        have he' : f.isEmpty = false := by simpa using he
        have ih := rdA_ins n r ((p.2.2 + p.2.1.wr) % 2) ah (addL f ((p.2.2 + p.2.1.wr) / 2)) hs
        rw [ih, hb, insV_addL he', pv_addL he']
        show _ ++ _ = _ ++ _
        congr 3
        omega
    · rw [if_neg ht] at hb
      rw [if_neg ht, if_neg ht]
      have ih := rdA_ins n r ((p.2.2 + p.2.1.wr) % 2) ah (f ++ [(p.1, p.2.1, (p.2.2 + p.2.1.wr) / 2)]) hs
      have e3 : 2 * pv [(p.1, p.2.1, (p.2.2 + p.2.1.wr) / 2)] (pv f (n + ah)) + (p.2.2 + p.2.1.wr) % 2 = 2 * p.2.1.ap (pv f (n + ah)) + p.2.1.wr + p.2.2 := by
        show 2 * (p.2.1.ap (pv f (n + ah)) + (p.2.2 + p.2.1.wr) / 2) + (p.2.2 + p.2.1.wr) % 2 = _
        omega
      rw [ih, hb, insV_append, pv_append, List.append_assoc, e3]
      rfl
theorem rdB_ins (s : Sta) (b n : Int) : insV (n + (rdB s b).2.1) (rdB s b).2.2 = (insV (2 * n + b + s.1) s.2).filterMap goOn := by
  have h := rdA_ins n s.2 ((s.1 + b) % 2) ((s.1 + b) / 2) [] (by omega)
  refine h.trans ?_
  show [] ++ (insV (2 * (n + (s.1 + b) / 2) + (s.1 + b) % 2) s.2).filterMap goOn = _
  rw [List.nil_append]
  congr 2
  omega
/-- a part that goes on -/
def halve (p : Part) : Part := (p.1, p.2.1, (p.2.2 + p.2.1.wr) / 2)
theorem rdA_same : ∀ (r : List Part) (sg ah : Int) (f : List Part), (rdA sg ah f r).2.2.length = f.length + r.length → (rdA sg ah f r).2 = (ah, f ++ r.map halve)
  | [], sg, ah, f, _ => by
    show (ah, f) = _
    rw [List.map_nil, List.append_nil]
  | p :: r, sg, ah, f, h => by
    rw [rdA, List.length_cons] at h
    rw [rdA]
    by_cases ht : sg = p.2.1.trig
    · rw [if_pos ht] at h
      by_cases he : f.isEmpty = true
      · rw [if_pos he] at h
        have := rdA_len r ((p.2.2 + p.2.1.wr) % 2) (ah + (p.2.2 + p.2.1.wr) / 2) f
        omega
      · rw [if_neg he] at h
        have := rdA_len r ((p.2.2 + p.2.1.wr) % 2) ah (addL f ((p.2.2 + p.2.1.wr) / 2))
        rw [addL_len] at this
        omega
    · rw [if_neg ht] at h ⊢
      have ih := rdA_same r ((p.2.2 + p.2.1.wr) % 2) ah (f ++ [(p.1, p.2.1, (p.2.2 + p.2.1.wr) / 2)]) (by rw [h]; simp; omega)
      rw [ih, List.map_cons, List.append_assoc]
      rfl
/-- one turn: the state, the number above -/
def nxt (s : Sta × Int) : Sta × Int := ((rdB s.1 (s.2 % 2)).2, s.2 / 2)
def stops (s : Sta × Int) : Prop := s.1.2 = [] ∨ ((nxt s).1 = s.1 ∧ (s.2 = 0 ∨ s.2 = -1))
def sumA (ps : List Part) : Nat := (ps.map fun p => p.2.2.natAbs).sum
theorem wr_01 (m : Mk) : m.wr = 0 ∨ m.wr = 1 := by cases m <;> simp [Mk.wr]
theorem sumA_le : ∀ ps : List Part, sumA (ps.map halve) ≤ sumA ps ∧ (sumA (ps.map halve) = sumA ps → ps.map halve = ps)
  | [] => ⟨Nat.le_refl _, fun _ => rfl⟩
  | p :: ps => by
    obtain ⟨h1, h2⟩ := sumA_le ps
    have hw := wr_01 p.2.1
    have hk : ((p.2.2 + p.2.1.wr) / 2).natAbs ≤ p.2.2.natAbs := by omega
    have hk2 : ((p.2.2 + p.2.1.wr) / 2).natAbs = p.2.2.natAbs → (p.2.2 + p.2.1.wr) / 2 = p.2.2 := by omega
    have e1 : sumA (p :: ps) = p.2.2.natAbs + sumA ps := by simp [sumA]
    have e2 : sumA ((p :: ps).map halve) = ((p.2.2 + p.2.1.wr) / 2).natAbs + sumA (ps.map halve) := by simp [sumA, halve]
    rw [e1, e2]
    refine ⟨by omega, fun h => ?_⟩
    have a := hk2 (by omega)
    have b := h2 (by omega)
    rw [List.map_cons, b]
    show (p.1, p.2.1, (p.2.2 + p.2.1.wr) / 2) :: ps = p :: ps
    rw [a]
/-- the loop ends -/
theorem turns_end : ∀ (a b c : Nat) (s : Sta × Int), s.1.2.length = a → s.2.natAbs = b → s.1.1.natAbs + sumA s.1.2 = c → ∃ k, ∃ t, t = Nat.repeat nxt k s ∧ stops t := by
  intro a
  induction a using Nat.strongRecOn with
  | _ a iha =>
    intro b
    induction b using Nat.strongRecOn with
    | _ b ihb =>
      intro c
      induction c using Nat.strongRecOn with
      | _ c ihc =>
        intro s ha hb hc
        by_cases hs : stops s
        · exact ⟨0, s, rfl, hs⟩
        · have step : (∃ k, ∃ t, t = Nat.repeat nxt k (nxt s) ∧ stops t) → ∃ k, ∃ t, t = Nat.repeat nxt k s ∧ stops t := by
            rintro ⟨k, t, ht, hst⟩
            refine ⟨k + 1, t, ?_, hst⟩
            rw [ht]
            have : ∀ k (x : Sta × Int), Nat.repeat nxt k (nxt x) = nxt (Nat.repeat nxt k x) := by
              intro k
              induction k with
              | zero => intro x; rfl
              | succ k ih => intro x; show nxt (Nat.repeat nxt k (nxt x)) = _; rw [ih]; rfl
            exact this k s
          refine step ?_
          have hlen := rdB_len s.1 (s.2 % 2)
          by_cases h1 : (nxt s).1.2.length < a
          · exact iha _ h1 _ _ (nxt s) rfl rfl rfl
          · have h1' : (nxt s).1.2.length = s.1.2.length := by
              have : (nxt s).1.2.length = (rdB s.1 (s.2 % 2)).2.2.length := rfl
              omega
            by_cases h2 : s.2 = 0 ∨ s.2 = -1
            · have e := rdA_same s.1.2 ((s.1.1 + s.2 % 2) % 2) ((s.1.1 + s.2 % 2) / 2) [] (by
                rw [List.length_nil, Nat.zero_add]; exact h1')
              have e' : (nxt s).1 = ((s.1.1 + s.2 % 2) / 2, s.1.2.map halve) := by
                show ((rdA _ _ [] s.1.2).2.1, (rdA _ _ [] s.1.2).2.2) = _
                rw [e]; rfl
              have hn : (nxt s).2.natAbs = b := by
                show (s.2 / 2).natAbs = b
                omega
              obtain ⟨l1, l2⟩ := sumA_le s.1.2
              have k1 : ((s.1.1 + s.2 % 2) / 2).natAbs ≤ s.1.1.natAbs := by omega
              have k2 : ((s.1.1 + s.2 % 2) / 2).natAbs = s.1.1.natAbs → (s.1.1 + s.2 % 2) / 2 = s.1.1 := by omega
              by_cases h3 : ((s.1.1 + s.2 % 2) / 2).natAbs + sumA (s.1.2.map halve) < c
              · refine ihc _ h3 (nxt s) (by omega) hn ?_
                rw [e']
              · refine absurd (Or.inr ⟨?_, h2⟩) hs
                rw [e', k2 (by omega), l2 (by omega)]
            · refine ihb _ (show (s.2 / 2).natAbs < b by omega) _ (nxt s) (by omega) rfl rfl
/-- the turns of the loop, the masks that still work with what is left of their values -/
def seqE (l : List Stp) (n : Int) (j : Nat) : Sta × Int := Nat.repeat nxt j (startOf l, n)
def lstE (l : List Stp) (n : Int) (j : Nat) : List (Nat × Mk × Int) := insV ((seqE l n j).2 + (seqE l n j).1.1) (seqE l n j).1.2
theorem lstE_succ (l : List Stp) (n : Int) (j : Nat) : lstE l n (j + 1) = (lstE l n j).filterMap goOn := by
  have h := rdB_ins (seqE l n j).1 ((seqE l n j).2 % 2) ((seqE l n j).2 / 2)
  have e : 2 * ((seqE l n j).2 / 2) + (seqE l n j).2 % 2 = (seqE l n j).2 := by omega
  rw [e] at h
  exact h
theorem insV_fst : ∀ (ps : List Part) (v : Int), (insV v ps).map (·.1) = ps.map (·.1)
  | [], _ => rfl
  | p :: ps, v => by
    show p.1 :: (insV _ ps).map (·.1) = p.1 :: ps.map (·.1)
    rw [insV_fst ps]
/-- indices ascend -/
theorem stA_idx : ∀ (l : List Stp) (i : Nat) (sh : Int) (ps : List Part), (∀ p ∈ ps, p.1 < i) → (ps.map (·.1)).Nodup → ((stA i sh ps l).2.map (·.1)).Nodup
  | [], _, _, _, _, h => h
  | .mk m :: r, i, sh, ps, hb, h => by
    rw [stA]
    refine stA_idx r (i + 1) sh _ (fun p hp => ?_) ?_
    · rcases List.mem_append.mp hp with hp | hp
      · exact Nat.lt_succ_of_lt (hb p hp)
      · rw [List.mem_singleton.mp hp]; exact Nat.lt_succ_self i
    · rw [List.map_append]
      refine List.nodup_append.mpr ⟨h, by simp, fun a ha b hb' => ?_⟩
      obtain ⟨p, hp, rfl⟩ := List.mem_map.mp ha
      have := hb p hp
      simp at hb'
      omega
  | .add k :: r, i, sh, ps, hb, h => by
    rw [stA]
    split
    · exact stA_idx r (i + 1) _ ps (fun p hp => Nat.lt_succ_of_lt (hb p hp)) h
    · rename_i he
      obtain ⟨g, q, rfl⟩ := snoc_of (by simpa using he)
      rw [addL_snoc]
      refine stA_idx r (i + 1) sh _ (fun p hp => ?_) ?_
      · rcases List.mem_append.mp hp with hp | hp
        · exact Nat.lt_succ_of_lt (hb p (List.mem_append_left _ hp))
        · rw [List.mem_singleton.mp hp]
          exact Nat.lt_succ_of_lt (hb q (List.mem_append_right _ List.mem_cons_self))
      · rw [List.map_append] at h ⊢
        exact h
/-- the first bit of a value at which a mask ends, or never -/
def EndIs (m : Mk) (v : Int) (d : D) : Prop := (∃ k : Nat, d = .int k ∧ v / 2 ^ k % 2 = m.trig ∧ ∀ j, j < k → v / 2 ^ j % 2 ≠ m.trig) ∨ (d = .non ∧ ∀ j : Nat, v / 2 ^ j % 2 ≠ m.trig)
theorem EndIs.inj {m : Mk} {v : Int} {d e : D} (h1 : EndIs m v d) (h2 : EndIs m v e) : d = e := by
  rcases h1 with ⟨k, rfl, a, b⟩ | ⟨rfl, b⟩ <;> rcases h2 with ⟨k', rfl, a', b'⟩ | ⟨rfl, b'⟩
  · have : k = k' := by
      rcases Nat.lt_trichotomy k k' with h | h | h
      · exact absurd a (b' _ h)
      · exact h
      · exact absurd a' (b _ h)
    rw [this]
  · exact absurd a (b' k)
  · exact absurd a' (b k')
  · rfl
/-- the ends of a list's masks -/
def EndsAre (l : List Stp) (n : Int) (out : List D) : Prop := Paired (fun (t : Nat × Mk × Int) (d : D) => EndIs t.2.1 t.2.2 d) (insV (n + (startOf l).1) (startOf l).2) out
/-- at which turn a value met its trigger, within so many turns -/
def metBy (t : Nat × Mk × Int) : Nat → Option Nat
  | 0 => none
  | j + 1 => (metBy t j).or (if t.2.2 / 2 ^ j % 2 = t.2.1.trig then some j else none)
theorem metBy_none {t : Nat × Mk × Int} : ∀ {j : Nat}, metBy t j = none → ∀ i, i < j → t.2.2 / 2 ^ i % 2 ≠ t.2.1.trig
  | 0, _, i, h => absurd h (Nat.not_lt_zero i)
  | j + 1, h, i, hi => by
    rw [metBy, Option.or_eq_none_iff] at h
    by_cases e : i < j
    · exact metBy_none h.1 i e
    · have e : i = j := by omega
      subst e
      intro z
      rw [if_pos z] at h
      cases h.2
theorem metBy_some {t : Nat × Mk × Int} {k : Nat} : ∀ {j : Nat}, metBy t j = some k → t.2.2 / 2 ^ k % 2 = t.2.1.trig ∧ ∀ i, i < k → t.2.2 / 2 ^ i % 2 ≠ t.2.1.trig
  | 0, h => by cases h
  | j + 1, h => by
    rw [metBy, Option.or_eq_some_iff] at h
    rcases h with h | ⟨h1, h2⟩
    · exact metBy_some h
    · split at h2
      · rename_i z
        cases h2
        exact ⟨z, metBy_none h1⟩
      · cases h2
theorem metBy_isSome {t : Nat × Mk × Int} {j : Nat} : (metBy t (j + 1)).isSome = ((metBy t j).isSome || ((metBy t j).isNone && (metBy t (j + 1)).isSome)) := by
  rw [metBy]
  cases metBy t j <;> simp
theorem alive_step (j : Nat) : ∀ L : List (Nat × Mk × Int), ((L.filter fun t => (metBy t j).isNone).map fun t => (t.1, t.2.1, t.2.2 / 2 ^ j)).filterMap goOn = (L.filter fun t => (metBy t (j + 1)).isNone).map fun t => (t.1, t.2.1, t.2.2 / 2 ^ (j + 1))
  | [] => rfl
  | t :: L => by
    have ih := alive_step j L
    have e : metBy t (j + 1) = (metBy t j).or (if t.2.2 / 2 ^ j % 2 = t.2.1.trig then some j else none) := rfl
    rw [List.filter_cons, List.filter_cons, e]
    cases h : metBy t j with
    | some k => simpa using ih
    | none =>
      by_cases z : t.2.2 / 2 ^ j % 2 = t.2.1.trig
      · rw [if_pos z]
        simp only [Option.isNone_none, if_true, List.map_cons, List.filterMap_cons]
        have eg : goOn (t.1, t.2.1, t.2.2 / 2 ^ j) = none := by unfold goOn; exact if_pos z
        rw [eg]
        simpa using ih
      · rw [if_neg z]
        simp only [Option.isNone_none, if_true, List.map_cons, List.filterMap_cons]
        have eg : goOn (t.1, t.2.1, t.2.2 / 2 ^ j) = some (t.1, t.2.1, t.2.2 / 2 ^ j / 2) := by unfold goOn; exact if_neg z
        rw [eg]
        simp only [Option.none_or, Option.isNone_none, if_true, List.map_cons]
        rw [ih, ediv_pow_succ']
/-- which masks still work behind some turns -/
theorem lstE_eq (l : List Stp) (n : Int) : ∀ j, lstE l n j = ((lstE l n 0).filter fun t => (metBy t j).isNone).map fun t => (t.1, t.2.1, t.2.2 / 2 ^ j)
  | 0 => by
    have e1 : (lstE l n 0).filter (fun t => (metBy t 0).isNone) = lstE l n 0 := List.filter_eq_self.mpr fun _ _ => rfl
    rw [e1]
    have e2 : ∀ L : List (Nat × Mk × Int), L.map (fun t => (t.1, t.2.1, t.2.2 / 2 ^ 0)) = L := by
      intro L
      induction L with
      | nil => rfl
      | cons t L ih => rw [List.map_cons, ih]; simp
    exact (e2 _).symm
  | j + 1 => by rw [lstE_succ, lstE_eq l n j, alive_step]
def idxE (l : List Stp) (n : Int) (j : Nat) : List Nat := (seqE l n j).1.2.map (·.1)
theorem idxE_eq (l : List Stp) (n : Int) (j : Nat) : idxE l n j = ((lstE l n 0).filter fun t => (metBy t j).isNone).map (·.1) := by
  have h := insV_fst (seqE l n j).1.2 ((seqE l n j).2 + (seqE l n j).1.1)
  rw [idxE, ← h]
  show (lstE l n j).map (·.1) = _
  rw [lstE_eq, List.map_map]
  rfl
theorem idx0_nodup (l : List Stp) (n : Int) : ((lstE l n 0).map (·.1)).Nodup := by
  rw [lstE, insV_fst]
  exact stA_idx l 0 0 [] (fun p hp => by cases hp) (by simp)
theorem nodup_inj {L : List (Nat × Mk × Int)} (h : (L.map (·.1)).Nodup) {s t : Nat × Mk × Int} (hs : s ∈ L) (ht : t ∈ L) (e : s.1 = t.1) : s = t := by
  induction L with
  | nil => cases hs
  | cons x L ih =>
    rw [List.map_cons, List.nodup_cons] at h
    rcases List.mem_cons.mp hs with e1 | h1
    · rcases List.mem_cons.mp ht with e2 | h2
      · rw [e1, e2]
      · exact absurd (List.mem_map.mpr ⟨t, h2, by rw [← e, e1]⟩) h.1
    · rcases List.mem_cons.mp ht with e2 | h2
      · exact absurd (List.mem_map.mpr ⟨s, h1, by rw [e, e2]⟩) h.1
      · exact ih h.2 h1 h2
/-- what ends at a turn -/
theorem died_eq (l : List Stp) (n : Int) (j : Nat) : (idxE l n j).filter (fun i => decide (i ∉ idxE l n (j + 1))) = ((lstE l n 0).filter fun t => (metBy t j).isNone && (metBy t (j + 1)).isSome).map (·.1) := by
  rw [idxE_eq l n j, List.filter_map, List.filter_filter]
  congr 1
  refine List.filter_congr fun t ht => ?_
  have key : t.1 ∈ idxE l n (j + 1) ↔ (metBy t (j + 1)).isNone = true := by
    rw [idxE_eq]
    constructor
    · intro h
      obtain ⟨s, hs, e⟩ := List.mem_map.mp h
      rw [List.mem_filter] at hs
      rw [← nodup_inj (idx0_nodup l n) hs.1 ht e]
      exact hs.2
    · intro h
      exact List.mem_map_of_mem (List.mem_filter.mpr ⟨ht, h⟩)
  show (decide (t.1 ∉ idxE l n (j + 1)) && (metBy t j).isNone) = _
  rw [Bool.and_comm]
  congr 1
  cases h : (metBy t (j + 1)) with
  | none => exact decide_eq_false fun z => z (key.mpr (by rw [h]; rfl))
  | some k => exact decide_eq_true fun z => by have := key.mp z; rw [h] at this; cases this
theorem count_two {α : Type} (a b c : α → Bool) (h : ∀ x, c x = (a x || (!a x && b x))) : ∀ L : List α, (L.filter c).length = (L.filter a).length + (L.filter fun x => !a x && b x).length
  | [] => rfl
  | x :: L => by
    have ih := count_two a b c h L
    rw [List.filter_cons, List.filter_cons, List.filter_cons, h x]
    cases a x <;> cases b x <;> simp <;> omega
theorem findD_app {k : Key} : ∀ {ks ks2 : List Key} {vs vs2 : List D}, ks.length = vs.length → findD k (ks ++ ks2) (vs ++ vs2) = (findD k ks vs).or (findD k ks2 vs2)
  | [], _, [], _, _ => by rw [List.nil_append, List.nil_append]; cases findD k _ _ <;> rfl
  | [], _, _ :: _, _, h => by cases h
  | _ :: _, _, [], _, h => by cases h
  | k' :: ks, ks2, v :: vs, vs2, h => by
    rw [List.cons_append, List.cons_append, findD, findD]
    by_cases e : k' = k
    · rw [if_pos e, if_pos e]; rfl
    · rw [if_neg e, if_neg e]; exact findD_app (by simpa using h)
theorem findD_repIn {k : Key} {x : D} : ∀ {ks : List Key}, k ∈ ks → findD k ks (List.replicate ks.length x) = some x
  | [], h => by cases h
  | k' :: ks, h => by
    rw [List.length_cons, List.replicate_succ, findD]
    by_cases e : k' = k
    · rw [if_pos e]
    · rw [if_neg e]
      rcases List.mem_cons.mp h with z | z
      · exact absurd z.symm e
      · exact findD_repIn z
theorem findD_repNot {k : Key} {x : D} : ∀ {ks : List Key}, k ∉ ks → findD k ks (List.replicate ks.length x) = none
  | [], _ => rfl
  | k' :: ks, h => by
    rw [List.length_cons, List.replicate_succ, findD, if_neg fun e => h (by rw [e]; exact List.mem_cons_self)]
    exact findD_repNot fun z => h (List.mem_cons_of_mem _ z)
abbrev keyN (i : Nat) : Key := .inl (i : Int)
/-- what the dict holds behind some turns -/
structure EndT (l : List Stp) (n : Int) (j : Nat) (ks : List Key) (vs : List D) : Prop where
  len : ks.length = vs.length
  nd : ks.Nodup
  cnt : ks.length = ((lstE l n 0).filter fun t => (metBy t j).isSome).length
  key : ∀ k ∈ ks, ∃ t ∈ lstE l n 0, k = keyN t.1 ∧ (metBy t j).isSome = true
  get : ∀ t ∈ lstE l n 0, findD (keyN t.1) ks vs = (metBy t j).map fun k => D.int (k : Nat)
theorem EndT.zero (l : List Stp) (n : Int) : EndT l n 0 [] [] := ⟨rfl, List.nodup_nil, by
  have : (lstE l n 0).filter (fun t => (metBy t 0).isSome) = [] := List.filter_eq_nil_iff.mpr fun _ _ => by simp [metBy]
  rw [this]; rfl, fun _ h => (by cases h), fun _ _ => rfl⟩
def diedE (l : List Stp) (n : Int) (j : Nat) : List Key := ((idxE l n j).filter fun i => decide (i ∉ idxE l n (j + 1))).map keyN
theorem EndT.step {l : List Stp} {n : Int} {j : Nat} {ks : List Key} {vs : List D} (h : EndT l n j ks vs) :
    EndT l n (j + 1) (ks ++ diedE l n j) (vs ++ List.replicate (diedE l n j).length (.int (j : Nat))) := by
  have nd0 := idx0_nodup l n
  have ed : diedE l n j = ((lstE l n 0).filter fun t => (metBy t j).isNone && (metBy t (j + 1)).isSome).map fun t => keyN t.1 := by
    rw [diedE, died_eq, List.map_map]; rfl
  refine ⟨by rw [List.length_append, List.length_append, h.len, List.length_replicate], ?_, ?_, fun k hk => ?_, fun t ht => ?_⟩
  · refine List.nodup_append.mpr ⟨h.nd, ?_, fun a ha b hb e => ?_⟩
    · rw [diedE, died_eq]
      have n1 : (((lstE l n 0).filter fun t => (metBy t j).isNone && (metBy t (j + 1)).isSome).map (·.1)).Nodup := nd0.sublist ((List.filter_sublist).map _)
      generalize (((lstE l n 0).filter fun t => (metBy t j).isNone && (metBy t (j + 1)).isSome).map (·.1)) = L at n1
      clear ed
      induction L with
      | nil => exact List.nodup_nil
      | cons x L ih =>
        rw [List.nodup_cons] at n1
        rw [List.map_cons, List.nodup_cons]
        refine ⟨fun z => ?_, ih n1.2⟩
        obtain ⟨y, hy, e⟩ := List.mem_map.mp z
        injection e with e
        have : y = x := by omega
        exact n1.1 (this ▸ hy)
    · subst e
      obtain ⟨t, ht, e1, m1⟩ := h.key a ha
      rw [ed] at hb
      obtain ⟨s, hs, e2⟩ := List.mem_map.mp hb
      rw [List.mem_filter] at hs
      have e3 : t.1 = s.1 := by
        rw [← e2] at e1
        injection e1 with e1
        omega
      rw [nodup_inj nd0 ht hs.1 e3] at m1
      have := hs.2
      cases q : metBy s j with
      | none => rw [q] at m1; cases m1
      | some k => rw [q] at this; cases this
  · rw [List.length_append, h.cnt, ed, List.length_map]
    have c := count_two (fun t => (metBy t j).isSome) (fun t => (metBy t (j + 1)).isSome) (fun t => (metBy t (j + 1)).isSome) (fun t => by
      rw [metBy_isSome]; cases metBy t j <;> simp) (lstE l n 0)
    rw [c]
    congr 2
    refine List.filter_congr fun t _ => ?_
    cases metBy t j <;> rfl
  · rcases List.mem_append.mp hk with hk | hk
    · obtain ⟨t, ht, e1, m1⟩ := h.key k hk
      exact ⟨t, ht, e1, by rw [metBy_isSome, m1]; rfl⟩
    · rw [ed] at hk
      obtain ⟨s, hs, e2⟩ := List.mem_map.mp hk
      rw [List.mem_filter, Bool.and_eq_true] at hs
      exact ⟨s, hs.1, e2.symm, hs.2.2⟩
  · rw [findD_app h.len, h.get t ht]
    have e : metBy t (j + 1) = (metBy t j).or (if t.2.2 / 2 ^ j % 2 = t.2.1.trig then some j else none) := rfl
    have mem : keyN t.1 ∈ diedE l n j ↔ ((metBy t j).isNone && (metBy t (j + 1)).isSome) = true := by
      rw [ed]
      constructor
      · intro z
        obtain ⟨s, hs, e2⟩ := List.mem_map.mp z
        rw [List.mem_filter] at hs
        injection e2 with e2
        rw [← nodup_inj nd0 hs.1 ht (by omega)]
        exact hs.2
      · intro z
        exact List.mem_map.mpr ⟨t, List.mem_filter.mpr ⟨ht, z⟩, rfl⟩
    cases q : metBy t j with
    | some k => rw [e, q]; rfl
    | none =>
      show (none : Option D).or _ = _
      rw [Option.none_or]
      rw [q] at mem e
      by_cases z : t.2.2 / 2 ^ j % 2 = t.2.1.trig
      · rw [if_pos z] at e
        rw [e] at mem ⊢
        rw [findD_repIn (mem.mpr rfl)]; rfl
      · rw [if_neg z] at e
        rw [e] at mem ⊢
        rw [findD_repNot fun y => by have := mem.mp y; cases this]; rfl
theorem EndT.small {l : List Stp} {n : Int} {j : Nat} {ks : List Key} {vs : List D} (h : EndT l n j ks vs) : ks.length ≤ l.length := by
  rw [h.cnt]
  refine Nat.le_trans (List.length_filter_le _ _) ?_
  have e : ((lstE l n 0).map (·.1)).length = ((seqE l n 0).1.2.map (·.1)).length := by rw [lstE, insV_fst]
  rw [List.length_map, List.length_map] at e
  rw [e]
  have := stA_len l 0 0 []
  rw [List.length_nil, Nat.zero_add] at this
  exact this
/-- the state stays: what works now works for ever -/
theorem stuck {l : List Stp} {n : Int} {j : Nat} (h : (nxt (seqE l n j)).1 = (seqE l n j).1 ∧ ((seqE l n j).2 = 0 ∨ (seqE l n j).2 = -1)) (d : Nat) : seqE l n (j + d) = seqE l n j := by
  have e1 : nxt (seqE l n j) = seqE l n j := by
    refine Prod.ext h.1 ?_
    show (seqE l n j).2 / 2 = _
    omega
  induction d with
  | zero => rfl
  | succ d ih =>
    show nxt (seqE l n (j + d)) = _
    rw [ih, e1]
theorem never_of {l : List Stp} {n : Int} {j : Nat} (h : stops (seqE l n j)) {t : Nat × Mk × Int} (ht : t ∈ lstE l n 0) (hm : metBy t j = none) (i : Nat) : t.2.2 / 2 ^ i % 2 ≠ t.2.1.trig := by
  have mem : ∀ d, t.1 ∈ idxE l n (j + d) := by
    have m0 : t.1 ∈ idxE l n j := by
      rw [idxE_eq]
      exact List.mem_map_of_mem (List.mem_filter.mpr ⟨ht, by rw [hm]; rfl⟩)
    rcases h with h | h
    · rw [idxE, h] at m0; cases m0
    · intro d
      rw [idxE, stuck h d]
      exact m0
  have m := mem (i + 1)
  rw [idxE_eq] at m
  obtain ⟨s, hs, e⟩ := List.mem_map.mp m
  rw [List.mem_filter] at hs
  rw [nodup_inj (idx0_nodup l n) hs.1 ht e] at hs
  exact metBy_none (Option.isNone_iff_eq_none.mp hs.2) i (by omega)
theorem EndT.ends {l : List Stp} {n : Int} {j : Nat} {ks : List Key} {vs : List D} (h : EndT l n j ks vs) (hs : stops (seqE l n j)) {t : Nat × Mk × Int} (ht : t ∈ lstE l n 0) : EndIs t.2.1 t.2.2 ((findD (keyN t.1) ks vs).getD .non) := by
  rw [h.get t ht]
  cases q : metBy t j with
  | some k => exact .inl ⟨k, rfl, metBy_some q⟩
  | none => exact .inr ⟨rfl, never_of hs ht q⟩
/-- the places of the masks -/
def mIdx : Nat → List Stp → List Nat
  | _, [] => []
  | i, .mk _ :: r => i :: mIdx (i + 1) r
  | i, .add _ :: r => mIdx (i + 1) r
theorem addL_fst {f : List Part} (h : f.isEmpty = false) (x : Int) : (addL f x).map (·.1) = f.map (·.1) := by
  obtain ⟨g, p, rfl⟩ := snoc_of h
  rw [addL_snoc, List.map_append, List.map_append]; rfl
theorem stA_mIdx : ∀ (l : List Stp) (i : Nat) (sh : Int) (ps : List Part), (stA i sh ps l).2.map (·.1) = ps.map (·.1) ++ mIdx i l
  | [], _, _, ps => by rw [mIdx, List.append_nil]; rfl
  | .mk m :: r, i, sh, ps => by
    rw [stA, stA_mIdx r, List.map_append, mIdx, List.append_assoc]; rfl
  | .add k :: r, i, sh, ps => by
    rw [stA, mIdx]
    split
    · rw [stA_mIdx r]
    · rename_i he
      rw [stA_mIdx r, addL_fst (by simpa using he)]
theorem lst0_idx (l : List Stp) (n : Int) : (lstE l n 0).map (·.1) = mIdx 0 l := by
  rw [lstE, insV_fst]
  exact stA_mIdx l 0 0 []
theorem mIdx_app : ∀ (a b : List Stp) (i : Nat), mIdx i (a ++ b) = mIdx i a ++ mIdx (i + a.length) b
  | [], b, i => by simp [mIdx]
  | .mk m :: r, b, i => by
    rw [List.cons_append, mIdx, mIdx, mIdx_app r b (i + 1), List.cons_append, List.length_cons, show i + 1 + r.length = i + (r.length + 1) by omega]
  | .add k :: r, b, i => by
    rw [List.cons_append, mIdx, mIdx, mIdx_app r b (i + 1), List.length_cons, show i + 1 + r.length = i + (r.length + 1) by omega]
theorem ends_paired {f : Nat × Mk × Int → D} : ∀ {L : List (Nat × Mk × Int)}, (∀ t ∈ L, EndIs t.2.1 t.2.2 (f t)) → Paired (fun (t : Nat × Mk × Int) (d : D) => EndIs t.2.1 t.2.2 d) L (L.map f)
  | [], _ => .nil
  | t :: L, h => .cons (h t List.mem_cons_self) (ends_paired fun t ht => h t (List.mem_cons_of_mem _ ht))
abbrev idN (i : Nat) : D := .int (i : Nat)
theorem ids_vS : ∀ L : List Nat, vSs (L.map idN) = some (L.map fun i => L2.V.int (i : Nat))
  | [] => rfl
  | i :: L => by rw [List.map_cons, vSs, ids_vS L]; rfl
theorem ids_in (i : Nat) : ∀ L : List Nat, L2.inV (.int (i : Nat)) (L.map fun i => L2.V.int (i : Nat)) = decide (i ∈ L)
  | [] => rfl
  | j :: L => by
    have ih := ids_in i L
    rw [List.map_cons]
    show (((j : Int) == (i : Int)) || L2.inV (.int (i : Nat)) (L.map fun i => L2.V.int (i : Nat))) = _
    rw [ih]
    by_cases e : i = j
    · subst e; simp
    · have : ((j : Int) == (i : Int)) = false := by simp; omega
      rw [this]; simp [e]
theorem ids_pds (M : Mp) : ∀ L : List Nat, pds M (L.map idN) = some (L.map fun i => PyData.int (i : Nat))
  | [] => by rw [List.map_nil, pds]; rfl
  | i :: L => by rw [List.map_cons, pds, pd, ids_pds M L]; rfl
theorem ids_can : ∀ L : List Nat, PyData.canLayAll0 (L.map fun i => PyData.int (i : Nat)) = true ∧ PyData.depthAll (L.map fun i => PyData.int (i : Nat)) = 0
  | [] => ⟨by simp [PyData.canLayAll0], by simp [PyData.depthAll]⟩
  | i :: L => by
    obtain ⟨h1, h2⟩ := ids_can L
    refine ⟨?_, ?_⟩
    · rw [List.map_cons, PyData.canLayAll0, h1]; simp [PyData.canLay0]
    · rw [List.map_cons, PyData.depthAll, h2]; simp [PyData.depth]
theorem ids_shaped (L : List Nat) : SeqAt.shaped (.list (L.map fun i => PyData.int (i : Nat))) = true := by
  obtain ⟨h1, h2⟩ := ids_can L
  unfold SeqAt.shaped
  rw [PyData.canLay0, PyData.depth, h1, h2, Bool.true_and]
  exact decide_eq_true (by omega)
theorem ids_nil (L : List Nat) : PyData.eqv (.list (L.map fun i => PyData.int (i : Nat))) (.list []) = L.isEmpty := by
  cases L with
  | nil => rfl
  | cons p ps => rfl
def staP (s : Sta) : PyData := .tuple [.int s.1, .tuple (s.2.map partP)]
theorem pd_sta (M : Mp) (s : Sta) : pd M (staD s) = some (staP s) := by
  rw [staD, pd, pds, pd, pds, pd, pds_parts, pds]; rfl
theorem shaped_sta (s : Sta) : SeqAt.shaped (staP s) = true := by
  obtain ⟨h1, h2⟩ := lay_parts s.2
  unfold SeqAt.shaped staP
  rw [Bool.and_eq_true]
  refine ⟨?_, decide_eq_true ?_⟩
  · simp [PyData.canLay0, PyData.canLayAll0, h1]
  · simp [PyData.depth, PyData.depthAll]; omega
theorem eqv_part (p q : Part) : PyData.eqv (partP p) (partP q) = decide (p = q) := by
  obtain ⟨i, m, k⟩ := p
  obtain ⟨j, m', k'⟩ := q
  rw [partP, partP, PyData.eqv, PyData.eqvAll, PyData.eqvAll, PyData.eqvAll, PyData.eqvAll, PyData.eqv, PyData.eqv, PyData.eqv]
  have em : (m.st == m'.st) = decide (m = m') := by cases m <;> cases m' <;> decide +kernel
  rw [em]
  by_cases h1 : i = j
  · subst h1
    by_cases h2 : m = m'
    · subst h2
      by_cases h3 : k = k'
      · subst h3; simp
      · simp [h3]
    · simp [h2]
  · have : ¬ (i : Int) = j := by omega
    simp [h1, this]
theorem eqvAll_parts : ∀ a b : List Part, PyData.eqvAll (a.map partP) (b.map partP) = decide (a = b)
  | [], [] => by simp [PyData.eqvAll]
  | [], _ :: _ => by simp [PyData.eqvAll]
  | _ :: _, [] => by simp [PyData.eqvAll]
  | p :: a, q :: b => by
    rw [List.map_cons, List.map_cons, PyData.eqvAll, eqv_part, eqvAll_parts a b, ← Bool.decide_and]
    congr 1
    simp
theorem eqv_sta (a b : Sta) : PyData.eqv (staP a) (staP b) = decide (a = b) := by
  obtain ⟨x, ps⟩ := a
  obtain ⟨y, qs⟩ := b
  rw [staP, staP, PyData.eqv, PyData.eqvAll, PyData.eqvAll, PyData.eqvAll, PyData.eqv, PyData.eqv, eqvAll_parts]
  by_cases h1 : x = y
  · subst h1; simp
  · simp [h1]
theorem keyN_nin {i : Nat} {L : List Nat} (h : i ∉ L) : keyN i ∉ L.map keyN := fun z => by
  obtain ⟨j, hj, e⟩ := List.mem_map.mp z
  injection e with e
  have : j = i := by omega
  exact h (this ▸ hj)
theorem nodup_keyN {L : List Nat} (h : L.Nodup) : (L.map keyN).Nodup := by
  induction L with
  | nil => exact List.nodup_nil
  | cons x L ih =>
    rw [List.nodup_cons] at h
    rw [List.map_cons, List.nodup_cons]
    exact ⟨keyN_nin h.1, ih h.2⟩
theorem sp_read_bit_l {s : Sta} {b : Int} {M : Mp} {Q : DK} {E : XD} (h : s.2.length ≤ 1000000) (q : Q (.tup [.int (rdB s b).1, staD (rdB s b).2]) M) : sp_read_bit [staD s, .int b] M Q E := ⟨s, b, rfl, h, q⟩
theorem seqE_len (l : List Stp) (n : Int) : ∀ j, (seqE l n j).1.2.length ≤ l.length
  | 0 => by
    have := stA_len l 0 0 []
    rw [List.length_nil, Nat.zero_add] at this
    exact this
  | j + 1 => Nat.le_trans (rdB_len _ _) (seqE_len l n j)
theorem idx_nodup (l : List Stp) (n : Int) (j : Nat) : (idxE l n j).Nodup := by
  rw [idxE_eq]
  exact (idx0_nodup l n).sublist ((List.filter_sublist).map _)
structure sp_ends_of (C1 C2 : Addr) (xs : List D) (M : Mp) (Q : DK) (E : XD) : Prop where
  ex : ∃ d e, xs = [d, e] ∧ okT M d ∧ (tyD M e).isSome = true ∧ (∀ l n, d = stD l → e = .int n → l.length ≤ 100000 ∧ ∀ out, EndsAre l n out → (∀ p, M p = none → Q (.ref p) (mup M p (.lst out))) ∨ Q (.lst out) M) ∧
    (isStepsD d = false → E (.ref C1) none M) ∧ (isStepsD d = true → isIntD e .non .non = false → E (.ref C2) none M)
theorem len_ends_of {C1 C2 : Addr} (xs : List D) (M : Mp) (Q : DK) (E : XD) : sp_ends_of C1 C2 xs M Q E → xs.length = 2 := by
  rintro ⟨_, _, rfl, _⟩; rfl
theorem sp_ends_of_ok {C1 C2 : Addr} {l : List Stp} {n : Int} {M : Mp} {Q : DK} {E : XD} (h : l.length ≤ 100000) (q : ∀ out, EndsAre l n out → (∀ p, M p = none → Q (.ref p) (mup M p (.lst out))) ∨ Q (.lst out) M) : sp_ends_of C1 C2 [stD l, .int n] M Q E := by
  refine ⟨_, _, rfl, okT_st (by omega), rfl, fun l' n' e1 e2 => ?_, fun e => (by rw [isSteps_st] at e; cases e), fun _ e => (by simp [isIntD, leB, geB] at e)⟩
  rw [← stD_inj e1]
  injection e2 with e2
  rw [← e2]
  exact ⟨h, q⟩
/-- the masks with the values that reach them -/
def msV : Int → List Stp → List (Mk × Int)
  | _, [] => []
  | v, .mk m :: r => (m, v) :: msV (m.ap v) r
  | v, .add k :: r => msV (v + k) r
theorem msV_app : ∀ (a b : List Stp) (v : Int), msV v (a ++ b) = msV v a ++ msV (run a v) b
  | [], _, _ => rfl
  | .mk m :: a, b, v => by rw [List.cons_append, msV, msV, msV_app a b, run_cons]; rfl
  | .add k :: a, b, v => by rw [List.cons_append, msV, msV, msV_app a b, run_cons]; rfl
theorem insV_stA : ∀ (l : List Stp) (i : Nat) (sh : Int) (ps : List Part) (n : Int), (insV (n + (stA i sh ps l).1) (stA i sh ps l).2).map (·.2) = (insV (n + sh) ps).map (·.2) ++ msV (pv ps (n + sh)) l
  | [], _, _, _, _ => by rw [msV, List.append_nil]; rfl
  | .mk m :: r, i, sh, ps, n => by
    rw [stA, insV_stA r, insV_append, pv_append, List.map_append, List.append_assoc, msV]
    show _ ++ ((m, pv ps (n + sh)) :: msV (m.ap (pv ps (n + sh)) + 0) r) = _
    rw [Int.add_zero]
  | .add k :: r, i, sh, ps, n => by
    rw [stA, msV]
    split
    · rename_i h
      rw [insV_stA r, List.isEmpty_iff.mp h]
      show msV (n + (sh + k)) r = msV (n + sh + k) r
      rw [Int.add_assoc]
    · rename_i h
      have h : ps.isEmpty = false := by simpa using h
      rw [insV_stA r, insV_addL h, pv_addL h]
theorem ms_start (l : List Stp) (n : Int) : (insV (n + (startOf l).1) (startOf l).2).map (·.2) = msV n l := by
  have h := insV_stA l 0 0 [] n
  rw [startOf, h]
  show [] ++ msV (n + 0) l = _
  rw [Int.add_zero]; rfl
theorem paired_map {α β γ : Type} {F : β → γ → Prop} (g : α → β) : ∀ {xs : List α} {ys : List γ}, Paired (fun x y => F (g x) y) xs ys → Paired F (xs.map g) ys
  | _, _, .nil => .nil
  | _, _, .cons h t => .cons h (paired_map g t)
/-- .. by the values that reach the masks -/
abbrev EndsV (n : Int) (l : List Stp) (out : List D) : Prop := Paired (fun (t : Mk × Int) (d : D) => EndIs t.1 t.2 d) (msV n l) out
theorem EndsAre.v {l : List Stp} {n : Int} {out : List D} (h : EndsAre l n out) : EndsV n l out := by
  have := paired_map (F := fun (t : Mk × Int) (d : D) => EndIs t.1 t.2 d) (fun t : Nat × Mk × Int => t.2) h
  rw [ms_start] at this
  exact this
theorem EndsV.inj : ∀ {ts : List (Mk × Int)} {a b : List D}, Paired (fun (t : Mk × Int) (d : D) => EndIs t.1 t.2 d) ts a → Paired (fun (t : Mk × Int) (d : D) => EndIs t.1 t.2 d) ts b → a = b
  | _, _, _, .nil, .nil => rfl
  | _, _, _, .cons h t, .cons h' t' => by rw [h.inj h', EndsV.inj t t']
theorem paired_app {α β : Type} {F : α → β → Prop} : ∀ {a c : List α} {b d : List β}, Paired F a b → Paired F c d → Paired F (a ++ c) (b ++ d)
  | _, _, _, _, .nil, h => h
  | _, _, _, _, .cons h t, h2 => .cons h (paired_app t h2)
/-- an end that is shown -/
def endP : D → PyData
  | .int k => .int k
  | _ => .none
theorem EndIs.pd {m : Mk} {v : Int} {d : D} (M : Mp) (h : EndIs m v d) : pd M d = some (endP d) := by
  rcases h with ⟨k, rfl, _⟩ | ⟨rfl, _⟩
  · rw [Lt.pd]; rfl
  · rw [Lt.pd]; rfl
theorem ends_pds (M : Mp) : ∀ {ts : List (Mk × Int)} {out : List D}, Paired (fun (t : Mk × Int) (d : D) => EndIs t.1 t.2 d) ts out → pds M out = some (out.map endP)
  | _, _, .nil => by rw [List.map_nil, pds]
  | _, _, .cons h t => by rw [List.map_cons, pds, h.pd, ends_pds M t]; rfl
theorem EndIs.rp {m : Mk} {v : Int} {d : D} (hv : v.natAbs < 2 ^ 400) (h : EndIs m v d) : RpOk (endP d) 0 2000 := by
  rcases h with ⟨k, rfl, h1, h2⟩ | ⟨rfl, _⟩
  · have tt : m.trig = 0 ∨ m.trig = 1 := by cases m <;> simp [Mk.trig]
    have := first_le hv tt h1 h2
    refine RpOk.int (v := (k : Int)) ?_
    exact Nat.lt_of_le_of_lt (show _ ≤ 401 by omega) (Nat.lt_of_lt_of_le (show 401 < 2 ^ 10 by decide) (Nat.pow_le_pow_right (by decide) (by decide)))
  · exact RpOk.none.mono (Nat.le_refl _) (by decide)
theorem EndIs.can {m : Mk} {v : Int} {d : D} (h : EndIs m v d) : PyData.canLay0 (endP d) = true ∧ PyData.depth (endP d) = 0 := by
  rcases h with ⟨k, rfl, _⟩ | ⟨rfl, _⟩
  · exact ⟨by simp [endP, PyData.canLay0], by simp [endP, PyData.depth]⟩
  · exact ⟨by simp [endP, PyData.canLay0], by simp [endP, PyData.depth]⟩
theorem ends_can : ∀ {ts : List (Mk × Int)} {out : List D}, Paired (fun (t : Mk × Int) (d : D) => EndIs t.1 t.2 d) ts out → PyData.canLayAll0 (out.map endP) = true ∧ PyData.depthAll (out.map endP) = 0
  | _, _, .nil => ⟨by simp [PyData.canLayAll0], by simp [PyData.depthAll]⟩
  | _, _, .cons h t => by
    obtain ⟨h1, h2⟩ := ends_can t
    obtain ⟨g1, g2⟩ := h.can
    refine ⟨?_, ?_⟩
    · rw [List.map_cons, PyData.canLayAll0, g1, h1]; rfl
    · rw [List.map_cons, PyData.depthAll, g2, h2]; rfl
theorem ends_shaped {ts : List (Mk × Int)} {out : List D} (h : Paired (fun (t : Mk × Int) (d : D) => EndIs t.1 t.2 d) ts out) : SeqAt.shaped (.list (out.map endP)) = true := by
  obtain ⟨h1, h2⟩ := ends_can h
  unfold SeqAt.shaped
  rw [PyData.canLay0, PyData.depth, h1, h2, Bool.true_and]
  exact decide_eq_true (by omega)
/-- values that reach the masks are not great -/
theorem msV_small {B : Nat} : ∀ {l : List Stp} {m : Nat} {n : Int}, B ≤ m → (∀ s ∈ l, s.lt B) → n.natAbs < 2 ^ m → ∀ t ∈ msV n l, t.2.natAbs < 2 ^ (m + 2 * l.length)
  | [], _, _, _, _, _, _, h => by cases h
  | .mk k :: r, m, n, hB, hs, hn, t, ht => by
    rw [msV] at ht
    rcases List.mem_cons.mp ht with rfl | ht
    · exact Nat.lt_of_lt_of_le hn (Nat.pow_le_pow_right (by decide) (by omega))
    · have := msV_small (m := m + 2) (n := k.ap n) (by omega) (fun s h => hs s (List.mem_cons_of_mem _ h)) ((Stp.mk k).ap_size (hs _ List.mem_cons_self) hB hn) t ht
      rw [List.length_cons]
      exact Nat.lt_of_lt_of_le this (Nat.pow_le_pow_right (by decide) (by omega))
  | .add k :: r, m, n, hB, hs, hn, t, ht => by
    rw [msV] at ht
    have := msV_small (m := m + 2) (n := n + k) (by omega) (fun s h => hs s (List.mem_cons_of_mem _ h)) ((Stp.add k).ap_size (hs _ List.mem_cons_self) hB hn) t ht
    rw [List.length_cons]
    exact Nat.lt_of_lt_of_le this (Nat.pow_le_pow_right (by decide) (by omega))
theorem paired_mem {α β : Type} {F : α → β → Prop} : ∀ {a : List α} {b : List β}, Paired F a b → ∀ y ∈ b, ∃ x ∈ a, F x y
  | _, _, .nil, _, h => by cases h
  | _, _, .cons h t, y, hy => by
    rcases List.mem_cons.mp hy with rfl | hy
    · exact ⟨_, List.mem_cons_self, h⟩
    · obtain ⟨x, hx, q⟩ := paired_mem t y hy
      exact ⟨x, List.mem_cons_of_mem _ hx, q⟩
theorem msV_len : ∀ (l : List Stp) (n : Int), (msV n l).length ≤ l.length
  | [], _ => Nat.le_refl _
  | .mk k :: r, n => by rw [msV, List.length_cons, List.length_cons]; exact Nat.succ_le_succ (msV_len r _)
  | .add k :: r, n => by rw [msV, List.length_cons]; exact Nat.le_succ_of_le (msV_len r _)
theorem ends_ok {l : List Stp} {n : Int} {out : List D} (hl : l.length ≤ 20) (hs : ∀ s ∈ l, s.lt 200) (hn : n.natAbs < 2 ^ 240) (h : EndsV n l out) : okRepr (.list (out.map endP)) ∧ out.length ≤ 20 := by
  have ho : out.length ≤ 20 := by
    have := Paired.length h
    have := msV_len l n
    omega
  refine ⟨(RpOk.list (d := 0) (n := 2000) fun x hx => ?_).ok (by decide) ?_, ho⟩
  · obtain ⟨d, hd, rfl⟩ := List.mem_map.mp hx
    obtain ⟨t, ht, q⟩ := paired_mem h d hd
    exact EndIs.rp (Nat.lt_of_lt_of_le (msV_small (B := 200) (m := 240) (by decide) hs hn t ht) (Nat.pow_le_pow_right (by decide) (by omega))) q
  · rw [List.length_map]
    have : out.length * (2000 + 2) + 4 ≤ 20 * 2002 + 4 := Nat.add_le_add_right (Nat.mul_le_mul ho (Nat.le_refl _)) 4
    exact Nat.le_trans this (by decide)
/-! #### _law_ends v -/
structure sp__law_ends_v (xs : List D) (M : Mp) (Q : DK) (E : XD) : Prop where
  ex : ∃ (sts : List Stp) (v : Int), xs = [stD sts, .int v] ∧ sts.length ≤ 20 ∧ (∀ s ∈ sts, s.lt 200) ∧ v.natAbs < 2 ^ 240 ∧ ∀ out, EndsV v sts out → Q (.lst out) M
theorem len__law_ends_v (xs : List D) (M : Mp) (Q : DK) (E : XD) : sp__law_ends_v xs M Q E → xs.length = 2 := by
  rintro ⟨_, _, rfl, _⟩; rfl
/-! #### need_place -/
def sp_need_place (C : Addr) : DSp := fun xs M Q E => ∃ d m, xs = [d, m] ∧ (tyD M d).isSome = true ∧ isBd m ∧ (isIntD d (.int 0) m = true → Q .non M) ∧ (isIntD d (.int 0) m = false → E (.ref C) none M)
theorem len_need_place {C : Addr} (xs : List D) (M : Mp) (Q : DK) (E : XD) : sp_need_place C xs M Q E → xs.length = 2 := by
  rintro ⟨_, _, rfl, _⟩; rfl
/-! #### listener_at -/
def workB (d : D) (pl : Int) : Bool := match d with
  | .int k => decide (pl ≤ k)
  | _ => true
/-- the first mask that works when a bit is read -/
def listD (ix : List Nat) (out : List D) (pl : Int) : D := match (ix.zip out).filter fun t => workB t.2 pl with
  | [] => .non
  | t :: _ => idN t.1
structure sp_listener_at (C1 C2 C3 : Addr) (xs : List D) (M : Mp) (Q : DK) (E : XD) : Prop where
  ex : ∃ d e f, xs = [d, e, f] ∧ okT M d ∧ (tyD M e).isSome = true ∧ (tyD M f).isSome = true ∧ (∀ l, d = stD l → l.length ≤ 100000) ∧
    (∀ l n pl, d = stD l → e = .int n → f = .int pl → 0 ≤ pl → ∀ out, EndsAre l n out → Q (listD (mIdx 0 l) out pl) M) ∧
    (isStepsD d = false → E (.ref C1) none M) ∧ (isStepsD d = true → isIntD e .non .non = false → E (.ref C2) none M) ∧ (isStepsD d = true → isIntD e .non .non = true → isIntD f (.int 0) .non = false → E (.ref C3) none M)
theorem len_listener_at {C1 C2 C3 : Addr} (xs : List D) (M : Mp) (Q : DK) (E : XD) : sp_listener_at C1 C2 C3 xs M Q E → xs.length = 3 := by
  rintro ⟨_, _, _, rfl, _⟩; rfl
theorem sp_listener_at_ok {C1 C2 C3 : Addr} {l : List Stp} {n pl : Int} {M : Mp} {Q : DK} {E : XD} (h : l.length ≤ 100000) (hp : 0 ≤ pl) (q : ∀ out, EndsAre l n out → Q (listD (mIdx 0 l) out pl) M) : sp_listener_at C1 C2 C3 [stD l, .int n, .int pl] M Q E := by
  refine ⟨_, _, _, rfl, okT_st (by omega), rfl, rfl, fun l' e => ?_, fun l' n' pl' e1 e2 e3 _ => ?_, fun e => (by rw [isSteps_st] at e; cases e), fun _ e => (by simp [isIntD, leB, geB] at e), fun _ _ e => (by simp [isIntD, leB, geB] at e; omega)⟩
  · rw [← stD_inj e]; exact h
  · rw [← stD_inj e1]
    injection e2 with e2
    injection e3 with e3
    rw [← e2, ← e3]
    exact q
theorem int0_of {d : D} (h : isIntD d (.int 0) .non = true) : ∃ i : Int, d = .int i ∧ 0 ≤ i := by
  cases d with
  | int i => exact ⟨i, rfl, by simpa [isIntD, leB, geB] using h⟩
  | _ => cases h
theorem mIdx_len : ∀ (l : List Stp) (i : Nat), (mIdx i l).length ≤ l.length
  | [], _ => Nat.le_refl _
  | .mk m :: r, i => by rw [mIdx, List.length_cons, List.length_cons]; exact Nat.succ_le_succ (mIdx_len r _)
  | .add k :: r, i => by rw [mIdx, List.length_cons]; exact Nat.le_succ_of_le (mIdx_len r _)
theorem zip_idN_at {ix : List Nat} {out : List D} {i : Nat} {d : D} (h : (zipD (ix.map idN) out)[i]? = some d) : ∃ t : Nat × D, (ix.zip out)[i]? = some t ∧ d = .tup [idN t.1, t.2] := by
  obtain ⟨x, y, hx, hy, rfl⟩ := zipD_at h
  rw [List.getElem?_map] at hx
  cases e : ix[i]? with
  | none => rw [e] at hx; cases hx
  | some j =>
    rw [e] at hx
    cases hx
    exact ⟨(j, y), by rw [List.getElem?_zip_eq_some]; exact ⟨e, hy⟩, rfl⟩
theorem zip_idN_len (ix : List Nat) (out : List D) : (zipD (ix.map idN) out).length = (ix.zip out).length := by
  rw [zipD_len, List.length_map, List.length_zip]
/-! #### states_from -/
/-- the bits that a state writes, what it becomes -/
def wrt : Sta → List Int → List Int
  | _, [] => []
  | s, b :: r => (rdB s b).1 :: wrt (rdB s b).2 r
def fin : Sta → List Int → Sta
  | s, [] => s
  | s, b :: r => fin (rdB s b).2 r
theorem fin_app : ∀ (a b : List Int) (s : Sta), fin s (a ++ b) = fin (fin s a) b
  | [], _, _ => rfl
  | _ :: a, b, s => fin_app a b _
theorem wrt_app : ∀ (a b : List Int) (s : Sta), wrt s (a ++ b) = wrt s a ++ wrt (fin s a) b
  | [], _, _ => rfl
  | x :: a, b, s => by
    show (rdB s x).1 :: wrt _ (a ++ b) = (rdB s x).1 :: (wrt _ a ++ wrt _ b)
    rw [wrt_app a b]; rfl
theorem wrt_len : ∀ (a : List Int) (s : Sta), (wrt s a).length = a.length
  | [], _ => rfl
  | _ :: a, s => by rw [wrt, List.length_cons, List.length_cons, wrt_len a]
theorem fin_len : ∀ (a : List Int) (s : Sta), (fin s a).2.length ≤ s.2.length
  | [], _ => Nat.le_refl _
  | b :: a, s => Nat.le_trans (fin_len a _) (rdB_len s b)
theorem wrt_bit : ∀ (a : List Int) (s : Sta), ∀ x ∈ wrt s a, x = 0 ∨ x = 1
  | [], _, _, h => by cases h
  | b :: a, s, x, h => by
    rcases List.mem_cons.mp h with rfl | h
    · exact rdB_bit s b
    · exact wrt_bit a _ x h
def outSt (s : Sta) (bs : List Int) : Nat → Option D := fun i => (bs[i]?).map fun b => .tup [.int (rdB (fin s (bs.take i)) b).1, staD (rdB (fin s (bs.take i)) b).2]
def sp_states_from : DGsp := fun xs out => ∃ (s : Sta) (bs : List Int), xs = [staD s, .lst (bs.map D.int)] ∧ s.2.length ≤ 1000000 ∧ out = outSt s bs
theorem len_states_from (xs : List D) (out : Nat → Option D) : sp_states_from xs out → xs.length = 2 := by
  rintro ⟨_, _, rfl, _⟩; rfl
theorem tLoop_inv {g : Tg} {tb : DGn} {D : XEnds} {items : List Lt.D} {n i : Nat} {ds : DS} {m : Mp} (P : Nat → Nat → Nat → DS → Mp → Prop) (h0 : P 0 n i ds m)
    (hs : ∀ j n i d ds m (N : Nat → Nat → DS → Mp → Prop), items[j]? = some d → P j n i ds m → (∀ n i ds m, P (j + 1) n i ds m → N n i ds m) → dTg g d ds fun ds1 => tb { D with nx := N, ct := N, bk := D.nx } n i ds1 m)
    (hd : ∀ n i ds m, P items.length n i ds m → D.nx n i ds m) : tLoop g tb D items n i ds m := by
  have key : ∀ (l : List Lt.D) (j n i : Nat) (ds : DS) (m : Mp), l = items.drop j → j + l.length = items.length → P j n i ds m → tLoop g tb D l n i ds m := by
    intro l
    induction l with
    | nil => intro j n i ds m _ e p; rw [List.length_nil, Nat.add_zero] at e; exact hd n i ds m (e ▸ p)
    | cons d l ih =>
      intro j n i ds m e el p
      rw [List.length_cons] at el
      have hj : j < items.length := by omega
      rw [List.drop_eq_getElem_cons hj] at e
      injection e with e1 e2
      exact hs j n i d ds m (tLoop g tb D l) (by rw [e1]; exact List.getElem?_eq_getElem hj) p fun n i ds m p => ih (j + 1) n i ds m e2 (by omega) p
  exact key items 0 n i ds m rfl (by omega) h0
theorem fin_take {s : Sta} {bs : List Int} {j : Nat} {b : Int} (h : bs[j]? = some b) : fin s (bs.take (j + 1)) = (rdB (fin s (bs.take j)) b).2 := by
  rw [List.take_add_one, h, fin_app]; rfl
/-! #### read_word -/
/-- a word of bits -/
def sgn (b : Int) : Nat := if b = 1 then 49 else 48
def wordS (bs : List Int) : Str := ⟨(bs.map sgn).toArray⟩
def isWordD : D → Bool
  | .str z => decide (z.length ≤ 200) && z.cps.toList.all fun c => decide (c ∈ ([48, 49] : List Nat))
  | _ => false
def bitOf (c : Nat) : Int := if c = 49 then 1 else 0
theorem word_of {d : D} (h : isWordD d = true) : ∃ bs : List Int, d = .str (wordS bs) ∧ bs.length ≤ 200 ∧ ∀ b ∈ bs, b = 0 ∨ b = 1 := by
  cases d with
  | str z =>
    unfold isWordD at h
    rw [Bool.and_eq_true] at h
    obtain ⟨h1, h2⟩ := h
    have h2 := List.all_eq_true.mp h2
    refine ⟨z.cps.toList.map bitOf, ?_, ?_, fun b hb => ?_⟩
    · congr 1
      refine TL.ext_tl ?_
      show z.cps.toList = ((z.cps.toList.map bitOf).map sgn).toArray.toList
      rw [List.map_map]
      have key : ∀ L : List Nat, (∀ c ∈ L, decide (c ∈ ([48, 49] : List Nat)) = true) → L = L.map (sgn ∘ bitOf) := by
        intro L
        induction L with
        | nil => intro _; rfl
        | cons c L ih =>
          intro h
          rw [List.map_cons, ← ih fun c hc => h c (List.mem_cons_of_mem _ hc)]
          have := of_decide_eq_true (h c List.mem_cons_self)
          simp only [List.mem_cons, List.not_mem_nil, or_false] at this
          rcases this with rfl | rfl <;> rfl
      exact key _ h2
    · rw [List.length_map]
      have := of_decide_eq_true h1
      simpa [Str.length] using this
    · obtain ⟨c, hc, rfl⟩ := List.mem_map.mp hb
      unfold bitOf
      split
      · exact .inr rfl
      · exact .inl rfl
  | _ => cases h
structure sp_read_word (C1 C2 : Addr) (xs : List D) (M : Mp) (Q : DK) (E : XD) : Prop where
  ex : ∃ d e, xs = [d, e] ∧ okT M d ∧ (tyD M e).isSome = true ∧ (∀ l, d = stD l → l.length ≤ 100000) ∧ (∀ z, e = .str z → z.length ≤ 1000000) ∧
    (∀ l bs, d = stD l → e = .str (wordS bs) → bs.length ≤ 200 → (∀ b ∈ bs, b = 0 ∨ b = 1) → Q (.tup [.str (wordS (wrt (startOf l) bs)), stD (stepsOf (fin (startOf l) bs))]) M) ∧
    (isStepsD d = false → E (.ref C1) none M) ∧ (isStepsD d = true → isWordD e = false → E (.ref C2) none M)
theorem wordS_len (bs : List Int) : (wordS bs).length = bs.length := by
  show (bs.map sgn).toArray.size = _
  simp
theorem wordS_app (a b : List Int) : wordS (a ++ b) = wordS a ++ wordS b := by
  refine TL.ext_tl ?_
  rw [TL.tl_append]
  show ((a ++ b).map sgn).toArray.toList = (a.map sgn).toArray.toList ++ (b.map sgn).toArray.toList
  rw [List.map_append]
theorem isWord_of {bs : List Int} (h : bs.length ≤ 200) : isWordD (.str (wordS bs)) = true := by
  show (decide ((wordS bs).length ≤ 200) && (wordS bs).cps.toList.all fun c => decide (c ∈ ([48, 49] : List Nat))) = true
  rw [wordS_len, decide_eq_true h, Bool.true_and]
  refine List.all_eq_true.mpr fun c hc => ?_
  have hc : c ∈ bs.map sgn := hc
  obtain ⟨b, _, rfl⟩ := List.mem_map.mp hc
  unfold sgn
  split <;> rfl
theorem len_read_word {C1 C2 : Addr} (xs : List D) (M : Mp) (Q : DK) (E : XD) : sp_read_word C1 C2 xs M Q E → xs.length = 2 := by
  rintro ⟨_, _, rfl, _⟩; rfl
theorem sgn_inj : ∀ {a b : List Int}, (∀ x ∈ a, x = 0 ∨ x = 1) → (∀ x ∈ b, x = 0 ∨ x = 1) → a.map sgn = b.map sgn → a = b
  | [], [], _, _, _ => rfl
  | [], _ :: _, _, _, h => by cases h
  | _ :: _, [], _, _, h => by cases h
  | x :: a, y :: b, ha, hb, h => by
    rw [List.map_cons, List.map_cons] at h
    injection h with h1 h2
    have e : x = y := by
      rcases ha x List.mem_cons_self with rfl | rfl <;> rcases hb y List.mem_cons_self with rfl | rfl <;> first | rfl | (simp [sgn] at h1)
    rw [e, sgn_inj (fun x hx => ha x (List.mem_cons_of_mem _ hx)) (fun x hx => hb x (List.mem_cons_of_mem _ hx)) h2]
theorem wordS_inj {a b : List Int} (ha : ∀ x ∈ a, x = 0 ∨ x = 1) (hb : ∀ x ∈ b, x = 0 ∨ x = 1) (h : wordS a = wordS b) : a = b := by
  have h : (a.map sgn).toArray.toList = (b.map sgn).toArray.toList := congrArg (fun z : Str => z.cps.toList) h
  exact sgn_inj ha hb h
theorem sp_read_word_ok {C1 C2 : Addr} {l : List Stp} {bs : List Int} {M : Mp} {Q : DK} {E : XD} (h : l.length ≤ 100000) (hb : bs.length ≤ 200) (h01 : ∀ b ∈ bs, b = 0 ∨ b = 1) (q : Q (.tup [.str (wordS (wrt (startOf l) bs)), stD (stepsOf (fin (startOf l) bs))]) M) : sp_read_word C1 C2 [stD l, .str (wordS bs)] M Q E := by
  refine ⟨_, _, rfl, okT_st (by omega), rfl, fun l' e => ?_, fun z e => ?_, fun l' bs' e1 e2 _ h2 => ?_, fun e => (by rw [isSteps_st] at e; cases e), fun _ e => (by rw [isWord_of hb] at e; cases e)⟩
  · rw [← stD_inj e]; exact h
  · injection e with e
    rw [← e, wordS_len]; omega
  · injection e2 with e2
    rw [← stD_inj e1, ← wordS_inj h01 h2 e2]
    exact q
/-! #### _law_read b -/
def sp__law_read_b : DSp := fun xs M Q _ => ∃ (m : Mk) (sg : Int), xs = [.str m.st, .int sg] ∧ Q (.tup [.int m.wr, .bl (decide (sg = m.trig))]) M
theorem len__law_read_b (xs : List D) (M : Mp) (Q : DK) (E : XD) : sp__law_read_b xs M Q E → xs.length = 2 := by
  rintro ⟨_, _, rfl, _⟩; rfl
/-! #### _law_bit b -/
/-- steps with their places -/
abbrev Prt := Nat × Stp
def prtD (ps : List Prt) : List D := ps.map fun p => .lst [.int (p.1 : Nat), p.2.d]
theorem prtD_len (ps : List Prt) : (prtD ps).length = ps.length := by unfold prtD; rw [List.length_map]
/-- one bit through steps that are not merged -/
def uB : Int → List Prt → Int × List Prt
  | sg, [] => (sg, [])
  | sg, (i, .add k) :: r => ((uB ((k + sg) % 2) r).1, (i, .add ((k + sg) / 2)) :: (uB ((k + sg) % 2) r).2)
  | sg, (i, .mk m) :: r => ((uB m.wr r).1, if sg = m.trig then (uB m.wr r).2 else (i, .mk m) :: (uB m.wr r).2)
/-- the sums between the masks -/
abbrev Nf := Int × List (Mk × Int)
def nf : List Stp → Nf
  | [] => (0, [])
  | .add k :: r => (k + (nf r).1, (nf r).2)
  | .mk m :: r => (0, (m, (nf r).1) :: (nf r).2)
def snf (s : Sta) : Nf := (s.1, s.2.map fun p => (p.2.1, p.2.2))
def nfM : Int → List (Mk × Int) → Int × Int × List (Mk × Int)
  | sg, [] => (sg, 0, [])
  | sg, (m, k) :: r =>
    if sg = m.trig then ((nfM ((k + m.wr) % 2) r).1, (k + m.wr) / 2 + (nfM ((k + m.wr) % 2) r).2.1, (nfM ((k + m.wr) % 2) r).2.2)
    else ((nfM ((k + m.wr) % 2) r).1, 0, (m, (k + m.wr) / 2 + (nfM ((k + m.wr) % 2) r).2.1) :: (nfM ((k + m.wr) % 2) r).2.2)
def nfB (sg : Int) (a : Nf) : Int × Nf := ((nfM ((a.1 + sg) % 2) a.2).1, (a.1 + sg) / 2 + (nfM ((a.1 + sg) % 2) a.2).2.1, (nfM ((a.1 + sg) % 2) a.2).2.2)
theorem uB_nf : ∀ (ps : List Prt) (sg : Int), (sg = 0 ∨ sg = 1) → (uB sg ps).1 = (nfB sg (nf (ps.map (·.2)))).1 ∧ nf ((uB sg ps).2.map (·.2)) = (nfB sg (nf (ps.map (·.2)))).2
  | [], sg, h => by
    have e : (0 + sg) % 2 = sg := by omega
    have e2 : (0 + sg) / 2 = 0 := by omega
    show sg = (nfM ((0 + sg) % 2) []).1 ∧ ((0 : Int), ([] : List (Mk × Int))) = _
    refine ⟨by rw [e]; rfl, ?_⟩
    show _ = ((0 + sg) / 2 + (nfM ((0 + sg) % 2) []).2.1, (nfM ((0 + sg) % 2) []).2.2)
    rw [e2]; rfl
  | (i, .add k) :: r, sg, h => by
    obtain ⟨h1, h2⟩ := uB_nf r ((k + sg) % 2) (by omega)
    have e : ((nf (r.map (·.2))).1 + (k + sg) % 2) % 2 = (k + (nf (r.map (·.2))).1 + sg) % 2 := by omega
    have e2 : (k + sg) / 2 + ((nf (r.map (·.2))).1 + (k + sg) % 2) / 2 = (k + (nf (r.map (·.2))).1 + sg) / 2 := by omega
    refine ⟨?_, ?_⟩
    · show (uB ((k + sg) % 2) r).1 = (nfM ((k + (nf (r.map (·.2))).1 + sg) % 2) (nf (r.map (·.2))).2).1
      rw [h1, nfB, e]
    · show ((k + sg) / 2 + (nf ((uB ((k + sg) % 2) r).2.map (·.2))).1, (nf ((uB ((k + sg) % 2) r).2.map (·.2))).2) = ((k + (nf (r.map (·.2))).1 + sg) / 2 + (nfM ((k + (nf (r.map (·.2))).1 + sg) % 2) (nf (r.map (·.2))).2).2.1, (nfM ((k + (nf (r.map (·.2))).1 + sg) % 2) (nf (r.map (·.2))).2).2.2)
      rw [h2, nfB]
      refine Prod.ext ?_ ?_
      · dsimp only
        rw [e, ← e2]
        exact (Int.add_assoc _ _ _).symm
      · dsimp only
        rw [e]
  | (i, .mk m) :: r, sg, h => by
    have hw : m.wr = 0 ∨ m.wr = 1 := by cases m <;> simp [Mk.wr]
    obtain ⟨h1, h2⟩ := uB_nf r m.wr hw
    have e : (0 + sg) % 2 = sg := by omega
    have e2 : (0 + sg) / 2 = 0 := by omega
    have en : nf (((i, Stp.mk m) :: r).map (·.2)) = (0, (m, (nf (r.map (·.2))).1) :: (nf (r.map (·.2))).2) := rfl
    rw [en, nfB]
    dsimp only
    rw [e, e2, nfM, uB]
    by_cases ht : sg = m.trig
    · rw [if_pos ht, if_pos ht]
      refine ⟨h1, ?_⟩
      rw [h2, nfB, Int.zero_add]
    · rw [if_neg ht, if_neg ht]
      refine ⟨h1, ?_⟩
      show (0, (m, (nf ((uB m.wr r).2.map (·.2))).1) :: (nf ((uB m.wr r).2.map (·.2))).2) = _
      rw [h2, nfB, Int.add_zero]
theorem addL_map {f : List Part} (h : f.isEmpty = false) (x : Int) (g : List Part) : ∃ f0 q, f = f0 ++ [q] ∧ addL f x = f0 ++ [(q.1, q.2.1, q.2.2 + x)] := by
  obtain ⟨f0, q, rfl⟩ := snoc_of h
  exact ⟨f0, q, rfl, addL_snoc _ _ _⟩
abbrev pmap (f : List Part) : List (Mk × Int) := f.map fun p => (p.2.1, p.2.2)
theorem rdA_nf : ∀ (r : List Part) (sg ah : Int) (f : List Part), (rdA sg ah f r).1 = (nfM sg (pmap r)).1 ∧
    (f.isEmpty = true → (rdA sg ah f r).2.1 = ah + (nfM sg (pmap r)).2.1 ∧ pmap (rdA sg ah f r).2.2 = (nfM sg (pmap r)).2.2) ∧
    (f.isEmpty = false → (rdA sg ah f r).2.1 = ah ∧ pmap (rdA sg ah f r).2.2 = pmap (addL f (nfM sg (pmap r)).2.1) ++ (nfM sg (pmap r)).2.2)
  | [], sg, ah, f => by
    refine ⟨rfl, fun h => ⟨(Int.add_zero ah).symm, by rw [rdA]; rw [List.isEmpty_iff.mp h]; rfl⟩, fun h => ⟨rfl, ?_⟩⟩
    obtain ⟨f0, q, rfl, e⟩ := addL_map h 0 []
    show pmap (f0 ++ [q]) = pmap (addL (f0 ++ [q]) 0) ++ []
    rw [e, List.append_nil, Int.add_zero]
  | p :: r, sg, ah, f => by
    rw [rdA]
    show _ ∧ _
    have ep : pmap (p :: r) = (p.2.1, p.2.2) :: pmap r := rfl
    rw [ep, nfM]
    by_cases ht : sg = p.2.1.trig
    · rw [if_pos ht, if_pos ht]
      by_cases he : f.isEmpty = true
      · rw [if_pos he]
        obtain ⟨h1, h2, h3⟩ := rdA_nf r ((p.2.2 + p.2.1.wr) % 2) (ah + (p.2.2 + p.2.1.wr) / 2) f
        refine ⟨h1, fun _ => ⟨?_, (h2 he).2⟩, fun z => by rw [he] at z; cases z⟩
        rw [(h2 he).1, Int.add_assoc]
      · rw [if_neg he]
        have he : f.isEmpty = false := by simpa using he
        obtain ⟨h1, h2, h3⟩ := rdA_nf r ((p.2.2 + p.2.1.wr) % 2) ah (addL f ((p.2.2 + p.2.1.wr) / 2))
        have hz : (addL f ((p.2.2 + p.2.1.wr) / 2)).isEmpty = false := by
          obtain ⟨f0, q, rfl, e⟩ := addL_map he ((p.2.2 + p.2.1.wr) / 2) []
          rw [e]; simp
        refine ⟨h1, fun z => (by rw [he] at z; cases z), fun _ => ⟨(h3 hz).1, ?_⟩⟩
        rw [(h3 hz).2]
        obtain ⟨f0, q, rfl, e⟩ := addL_map he ((p.2.2 + p.2.1.wr) / 2) []
        rw [e, addL_snoc, addL_snoc]
        dsimp only
        rw [Int.add_assoc]
    · rw [if_neg ht, if_neg ht]
      obtain ⟨h1, h2, h3⟩ := rdA_nf r ((p.2.2 + p.2.1.wr) % 2) ah (f ++ [(p.1, p.2.1, (p.2.2 + p.2.1.wr) / 2)])
      have hz : (f ++ [(p.1, p.2.1, (p.2.2 + p.2.1.wr) / 2)]).isEmpty = false := by simp
      obtain ⟨g1, g2⟩ := h3 hz
      rw [addL_snoc] at g2
      refine ⟨h1, fun he => ⟨by rw [g1, Int.add_zero], ?_⟩, fun he => ⟨g1, ?_⟩⟩
      · rw [g2, List.isEmpty_iff.mp he]; rfl
      · obtain ⟨f0, q, rfl, e⟩ := addL_map he 0 []
        rw [g2, e, Int.add_zero]
        show pmap ((f0 ++ [q]) ++ [_]) ++ _ = pmap (f0 ++ [q]) ++ (_ :: _)
        simp only [pmap, List.map_append, List.append_assoc]
        rfl
theorem rdB_nf (s : Sta) (b : Int) : (rdB s b).1 = (nfB b (snf s)).1 ∧ snf (rdB s b).2 = (nfB b (snf s)).2 := by
  obtain ⟨h1, h2, _⟩ := rdA_nf s.2 ((s.1 + b) % 2) ((s.1 + b) / 2) []
  obtain ⟨g1, g2⟩ := h2 rfl
  exact ⟨h1, Prod.ext g1 g2⟩
/-- merged steps by the sums -/
def mgN : List Stp → Int → List (Mk × Int) → List Stp
  | f, sh, [] => if sh ≠ 0 then f ++ [.add sh] else f
  | f, sh, (m, k) :: r => mgN (f ++ (if sh ≠ 0 then [.add sh, .mk m] else [.mk m])) k r
theorem mgA_nf : ∀ (l f : List Stp) (sh : Int), mgA f sh l = mgN f (sh + (nf l).1) (nf l).2
  | [], f, sh => by
    rw [mgA]
    show _ = mgN f (sh + 0) []
    rw [Int.add_zero, mgN]
  | .mk m :: r, f, sh => by
    rw [mgA, mgA_nf r, Int.zero_add]
    show _ = mgN f (sh + 0) ((m, (nf r).1) :: (nf r).2)
    rw [Int.add_zero, mgN]
  | .add k :: r, f, sh => by
    rw [mgA, mgA_nf r]
    show _ = mgN f (sh + (k + (nf r).1)) (nf r).2
    rw [Int.add_assoc]
theorem mgd_nf {l r : List Stp} (h : nf l = nf r) : mgd l = mgd r := by rw [mgd, mgd, mgA_nf, mgA_nf, h]
theorem nf_app_parts : ∀ (ps : List Part), nf (ps.flatMap fun p => [Stp.mk p.2.1, .add p.2.2]) = (0, pmap ps)
  | [] => rfl
  | p :: ps => by
    rw [List.flatMap_cons]
    show (0, (p.2.1, p.2.2 + (nf (ps.flatMap _)).1) :: (nf (ps.flatMap _)).2) = _
    rw [nf_app_parts ps, Int.add_zero]; rfl
theorem nf_staL (s : Sta) : nf (staL s) = snf s := by
  show (s.1 + (nf (s.2.flatMap _)).1, (nf (s.2.flatMap _)).2) = _
  rw [nf_app_parts, Int.add_zero]; rfl
theorem nf_app : ∀ (a : List Stp) (k : Int) , nf (a ++ [.add k]) = nf a ∨ True := fun _ _ => .inr trivial
theorem stA_nf : ∀ (l : List Stp) (i : Nat) (sh : Int) (ps : List Part), snf (stA i sh ps l) = if ps.isEmpty = true then (sh + (nf l).1, (nf l).2) else (sh, pmap (addL ps (nf l).1) ++ (nf l).2)
  | [], i, sh, ps => by
    rw [stA]
    by_cases h : ps.isEmpty = true
    · rw [if_pos h, List.isEmpty_iff.mp h]
      show (sh, []) = (sh + 0, [])
      rw [Int.add_zero]
    · rw [if_neg h]
      obtain ⟨f0, q, rfl, e⟩ := addL_map (by simpa using h) 0 []
      show (sh, pmap (f0 ++ [q])) = (sh, pmap (addL (f0 ++ [q]) 0) ++ [])
      rw [e, Int.add_zero, List.append_nil]
  | .mk m :: r, i, sh, ps => by
    rw [stA, stA_nf r, if_neg (by simp), addL_snoc]
    have en : nf (Stp.mk m :: r) = (0, (m, (nf r).1) :: (nf r).2) := rfl
    rw [en]
    by_cases h : ps.isEmpty = true
    · rw [if_pos h, List.isEmpty_iff.mp h]
      show (sh, (m, 0 + (nf r).1) :: (nf r).2) = (sh + 0, _)
      rw [Int.add_zero, Int.zero_add]
    · rw [if_neg h]
      obtain ⟨f0, q, rfl, e⟩ := addL_map (by simpa using h) 0 []
      rw [e, Int.add_zero]
      simp only [pmap, List.map_append, List.append_assoc]
      try dsimp only [List.map_cons, List.map_nil]
      rw [Int.zero_add]
      rfl
  | .add k :: r, i, sh, ps => by
    rw [stA]
    have en : nf (Stp.add k :: r) = (k + (nf r).1, (nf r).2) := rfl
    rw [en]
    by_cases h : ps.isEmpty = true
    · rw [if_pos h, stA_nf r, if_pos h, if_pos h]
      dsimp only
      rw [Int.add_assoc]
    · rw [if_neg h, stA_nf r]
      obtain ⟨f0, q, rfl, e⟩ := addL_map (by simpa using h) k []
      rw [e, if_neg (by simp), if_neg (by simp), addL_snoc, addL_snoc]
      dsimp only
      rw [Int.add_assoc]
theorem snf_start (l : List Stp) : snf (startOf l) = nf l := by
  rw [startOf, stA_nf]
  show (0 + (nf l).1, (nf l).2) = nf l
  rw [Int.zero_add]
theorem uB_len : ∀ (ps : List Prt) (sg : Int), (uB sg ps).2.length ≤ ps.length
  | [], _ => Nat.le_refl _
  | (i, .add k) :: r, sg => by rw [uB, List.length_cons, List.length_cons]; exact Nat.succ_le_succ (uB_len r _)
  | (i, .mk m) :: r, sg => by
    rw [uB, List.length_cons]
    have := uB_len r m.wr
    dsimp only
    split
    · omega
    · rw [List.length_cons]; omega
structure sp__law_bit_b (xs : List D) (M : Mp) (Q : DK) (E : XD) : Prop where
  ex : ∃ (ps : List Prt) (sg : Int), xs = [.lst (prtD ps), .int sg] ∧ ps.length ≤ 100000 ∧ Q (.tup [.int (uB sg ps).1, .lst (prtD (uB sg ps).2)]) M
theorem len__law_bit_b (xs : List D) (M : Mp) (Q : DK) (E : XD) : sp__law_bit_b xs M Q E → xs.length = 2 := by
  rintro ⟨_, _, rfl, _⟩; rfl
theorem prtD_app (a b : List Prt) : prtD (a ++ b) = prtD a ++ prtD b := by unfold prtD; rw [List.map_append]
def sumT (ms : List (Mk × Int)) : Nat := (ms.map fun t => t.2.natAbs).sum
theorem sumT_cons (t : Mk × Int) (r : List (Mk × Int)) : sumT (t :: r) = t.2.natAbs + sumT r := by simp [sumT]
theorem nfM_T : ∀ (r : List (Mk × Int)) (sg : Int), (nfM sg r).2.1.natAbs + sumT (nfM sg r).2.2 ≤ sumT r + r.length ∧ (nfM sg r).2.2.length ≤ r.length
  | [], _ => ⟨Nat.le_refl _, Nat.le_refl _⟩
  | (m, k) :: r, sg => by
    obtain ⟨h1, h2⟩ := nfM_T r ((k + m.wr) % 2)
    have hw : m.wr = 0 ∨ m.wr = 1 := by cases m <;> simp [Mk.wr]
    have hk : ((k + m.wr) / 2).natAbs ≤ k.natAbs + 1 := by omega
    have ha : ((k + m.wr) / 2 + (nfM ((k + m.wr) % 2) r).2.1).natAbs ≤ ((k + m.wr) / 2).natAbs + (nfM ((k + m.wr) % 2) r).2.1.natAbs := Int.natAbs_add_le _ _
    rw [nfM, sumT_cons, List.length_cons]
    split
    · dsimp only
      exact ⟨by omega, by omega⟩
    · dsimp only
      rw [sumT_cons, List.length_cons]
      dsimp only
      exact ⟨by simp only [Int.natAbs_zero]; omega, by omega⟩
def totT (a : Nf) : Nat := a.1.natAbs + sumT a.2
theorem nfB_T (sg : Int) (h : sg = 0 ∨ sg = 1) (a : Nf) : totT (nfB sg a).2 ≤ totT a + a.2.length + 1 ∧ (nfB sg a).2.2.length ≤ a.2.length := by
  obtain ⟨h1, h2⟩ := nfM_T a.2 ((a.1 + sg) % 2)
  have hk : ((a.1 + sg) / 2).natAbs ≤ a.1.natAbs + 1 := by omega
  have ha : ((a.1 + sg) / 2 + (nfM ((a.1 + sg) % 2) a.2).2.1).natAbs ≤ ((a.1 + sg) / 2).natAbs + (nfM ((a.1 + sg) % 2) a.2).2.1.natAbs := Int.natAbs_add_le _ _
  refine ⟨?_, h2⟩
  show ((a.1 + sg) / 2 + (nfM ((a.1 + sg) % 2) a.2).2.1).natAbs + sumT (nfM ((a.1 + sg) % 2) a.2).2.2 ≤ a.1.natAbs + sumT a.2 + a.2.length + 1
  omega
theorem fin_T : ∀ (bs : List Int) (s : Sta), (∀ b ∈ bs, b = 0 ∨ b = 1) → totT (snf (fin s bs)) ≤ totT (snf s) + bs.length * (s.2.length + 1)
  | [], s, _ => by rw [fin]; simp
  | b :: bs, s, h => by
    have ih := fin_T bs (rdB s b).2 fun x hx => h x (List.mem_cons_of_mem _ hx)
    obtain ⟨_, h2⟩ := rdB_nf s b
    obtain ⟨t1, _⟩ := nfB_T b (h b List.mem_cons_self) (snf s)
    have hl := rdB_len s b
    have e : (snf s).2.length = s.2.length := by show (s.2.map _).length = _; rw [List.length_map]
    rw [h2] at ih
    rw [e] at t1
    rw [fin, List.length_cons, Nat.add_mul]
    have := Nat.mul_le_mul_left bs.length (Nat.succ_le_succ hl)
    have e3 : bs.length * ((rdB s b).2.2.length + 1) ≤ bs.length * (s.2.length + 1) := this
    omega
theorem nf_T : ∀ (l : List Stp), (∀ s ∈ l, s.lt 100) → totT (nf l) ≤ l.length * 2 ^ 100
  | [], _ => Nat.le_refl _
  | .add k :: r, h => by
    have ih := nf_T r fun s hs => h s (List.mem_cons_of_mem _ hs)
    have hk : k.natAbs < 2 ^ 100 := h _ List.mem_cons_self
    have ha : (k + (nf r).1).natAbs ≤ k.natAbs + (nf r).1.natAbs := Int.natAbs_add_le _ _
    rw [List.length_cons, Nat.add_mul]
    show (k + (nf r).1).natAbs + sumT (nf r).2 ≤ _
    unfold totT at ih
    omega
  | .mk m :: r, h => by
    have ih := nf_T r fun s hs => h s (List.mem_cons_of_mem _ hs)
    rw [List.length_cons, Nat.add_mul]
    show (0 : Int).natAbs + sumT ((m, (nf r).1) :: (nf r).2) ≤ _
    rw [sumT_cons]
    unfold totT at ih
    simp only [Int.natAbs_zero]
    omega
theorem mgN_T : ∀ (ms : List (Mk × Int)) (f : List Stp) (sh : Int) (B : Nat), (∀ s ∈ f, ∀ k, s = .add k → k.natAbs ≤ B) → sh.natAbs + sumT ms ≤ B → ∀ s ∈ mgN f sh ms, ∀ k, s = .add k → k.natAbs ≤ B
  | [], f, sh, B, hf, hB, s, hs, k, e => by
    have hB : sh.natAbs + 0 ≤ B := hB
    rw [mgN] at hs
    split at hs
    · rcases List.mem_append.mp hs with hs | hs
      · exact hf s hs k e
      · rw [List.mem_singleton.mp hs] at e
        cases e; omega
    · exact hf s hs k e
  | (m, k0) :: r, f, sh, B, hf, hB, s, hs, k, e => by
    rw [sumT_cons] at hB
    rw [mgN] at hs
    refine mgN_T r _ k0 B (fun s hs k e => ?_) (by dsimp only at hB; omega) s hs k e
    rcases List.mem_append.mp hs with hs | hs
    · exact hf s hs k e
    · split at hs
      · rcases List.mem_cons.mp hs with rfl | hs
        · cases e; omega
        · rw [List.mem_singleton.mp hs] at e; cases e
      · rw [List.mem_singleton.mp hs] at e; cases e
theorem rest_lt {l : List Stp} {bs : List Int} (hl : l.length ≤ 20) (hs : ∀ s ∈ l, s.lt 100) (hb : bs.length ≤ 200) (h01 : ∀ b ∈ bs, b = 0 ∨ b = 1) : (∀ s ∈ stepsOf (fin (startOf l) bs), s.lt 120) ∧ (stepsOf (fin (startOf l) bs)).length ≤ 41 := by
  have t1 := fin_T bs (startOf l) h01
  have t2 := nf_T l hs
  rw [snf_start] at t1
  have sl : (startOf l).2.length ≤ l.length := by
    have := stA_len l 0 0 []
    rw [List.length_nil, Nat.zero_add] at this
    exact this
  have t3 : bs.length * ((startOf l).2.length + 1) ≤ 200 * 21 := Nat.mul_le_mul hb (by omega)
  have t4 : l.length * 2 ^ 100 ≤ 20 * 2 ^ 100 := Nat.mul_le_mul_right _ hl
  refine ⟨fun s h => ?_, ?_⟩
  · cases s with
    | mk m => trivial
    | add k =>
      rw [stepsOf, mgd, mgA_nf, nf_staL, Int.zero_add] at h
      have := mgN_T (snf (fin (startOf l) bs)).2 [] (snf (fin (startOf l) bs)).1 (totT (snf (fin (startOf l) bs))) (fun _ h => by cases h) (Nat.le_refl _) _ h k rfl
      show k.natAbs < 2 ^ 120
      omega
  · have h1 := mgd_len (staL (fin (startOf l) bs))
    have h2 := staL_len (fin (startOf l) bs)
    have h3 := fin_len bs (startOf l)
    rw [stepsOf]; omega
abbrev readP (w : Str) (l : List Stp) : PyData := .tuple [.str w, .tuple (l.map Stp.pd)]
theorem pd_read (M : Mp) (w : Str) (l : List Stp) : pd M (.tup [.str w, stD l]) = some (readP w l) := by
  rw [pd, pds, pds, pds, pd_st, pd]; rfl
theorem rp_read {bs : List Int} {l : List Stp} (hb : bs.length ≤ 200) (hl : l.length ≤ 41) (hs : ∀ s ∈ l, s.lt 1900) : RpOk (readP (wordS bs) l) 2 170000 := by
  refine (RpOk.tuple (d := 1) (n := 82086) fun x hx => ?_).mono (Nat.le_refl _) (show 2 * (82086 + 2) + 4 ≤ 170000 by decide)
  simp only [List.mem_cons, List.not_mem_nil, or_false] at hx
  rcases hx with rfl | rfl
  · refine (RpOk.str (n := 2002) ?_).mono (by decide) (by decide)
    refine Nat.le_trans (PySem.StrLaws.reprText_len _ fun c hc => ?_) ?_
    · have hc : c ∈ bs.map sgn := hc
      obtain ⟨b, _, rfl⟩ := List.mem_map.mp hc
      unfold sgn
      split <;> decide
    · rw [wordS_len]; omega
  · exact rp_st hs hl
theorem eqv_read (l : List Stp) : PyData.eqv (readP "" l) (readP "" l) = true ∧ SeqAt.shaped (readP "" l) = true := by
  have c := canLay_st l
  have c2 : PyData.canLay0 (readP "" l) = true := by
    rw [PyData.canLay0, PyData.canLayAll0, PyData.canLayAll0, c]
    simp [PyData.canLay0, PyData.canLayAll0]
    try decide +kernel
  refine ⟨SeqAt.eqv_refl _ c2, ?_⟩
  have d := depth_st l
  unfold SeqAt.shaped
  rw [c2, Bool.true_and]
  refine decide_eq_true ?_
  rw [PyData.depth, PyData.depthAll, PyData.depthAll, PyData.depthAll]
  simp only [PyData.depth] at d ⊢
  omega
/-! #### _law_word c -/
structure sp__law_word_c (xs : List D) (M : Mp) (Q : DK) (E : XD) : Prop where
  ex : ∃ (b : Addr) (most n : Int) (l : List D), xs = [.ref b, .int most] ∧ 0 ≤ most ∧ most ≤ 200 ∧ M b = some (.lst l) ∧ Bar l n ∧ n < 2 ^ 59 ∧
    ∀ (bs : List Int) l', (bs.length : Int) ≤ most → (∀ x ∈ bs, x = 0 ∨ x = 1) → Bar l' (n + 1000) → Q (.str (wordS bs)) (mup M b (.lst l'))
theorem len__law_word_c (xs : List D) (M : Mp) (Q : DK) (E : XD) : sp__law_word_c xs M Q E → xs.length = 2 := by
  rintro ⟨_, _, _, _, rfl, _⟩; rfl
theorem sgn_at {x : Int} (h : x = 0 ∨ x = 1) : atI ("01" : Str).cps.toList x = some (sgn x) := by
  rcases h with rfl | rfl <;> decide +kernel
theorem wordS_snoc (bs : List Int) (x : Int) : wordS bs ++ ⟨#[sgn x]⟩ = wordS (bs ++ [x]) := by
  rw [wordS_app]; rfl
/-! #### _law_bag -/
def sp__law_bag : DSp := fun xs M Q _ => ∃ (ns : List Int) (k : Int), xs = [.scr ns, .int k] ∧ 0 ≤ k ∧ k ≤ 100 ∧ ∀ p l, M p = none → Bar l 6100 → Q (.ref p) (mup M p (.lst l))
theorem len__law_bag (xs : List D) (M : Mp) (Q : DK) (E : XD) : sp__law_bag xs M Q E → xs.length = 2 := by
  rintro ⟨_, _, rfl, _⟩; rfl
/-! #### _law_take -/
def sp__law_take : DSp := fun xs M Q _ => ∃ (b : Addr) (many n : Int) (l : List D), xs = [.ref b, .int many] ∧ 1 ≤ many ∧ many < 2 ^ 200 ∧ M b = some (.lst l) ∧ Bar l n ∧ n < 2 ^ 60 ∧
  ∀ r l', 0 ≤ r → r < many → Bar l' (n + 1) → Q (.int r) (mup M b (.lst l'))
theorem len__law_take (xs : List D) (M : Mp) (Q : DK) (E : XD) : sp__law_take xs M Q E → xs.length = 2 := by
  rintro ⟨_, _, _, _, rfl, _⟩; rfl
/-! #### _law_list -/
structure sp__law_list (xs : List D) (M : Mp) (Q : DK) (E : XD) : Prop where
  ex : ∃ (b : Addr) (most n : Int) (l : List D), xs = [.ref b, .int most] ∧ 0 ≤ most ∧ most ≤ 100 ∧ M b = some (.lst l) ∧ Bar l n ∧ n < 2 ^ 59 ∧
    ∀ (sts : List Stp) l', (sts.length : Int) ≤ most → (∀ s ∈ sts, s.lt 100) → Bar l' (n + 1000) → Q (stD sts) (mup M b (.lst l'))
theorem len__law_list (xs : List D) (M : Mp) (Q : DK) (E : XD) : sp__law_list xs M Q E → xs.length = 2 := by
  rintro ⟨_, _, _, _, rfl, _⟩; rfl
theorem sp__law_list_ok {b : Addr} {most n : Int} {l : List D} {M : Mp} {Q : DK} {E : XD} (m0 : 0 ≤ most) (m1 : most ≤ 100) (hb : M b = some (.lst l)) (hl : Bar l n) (hn : n < 2 ^ 59)
    (q : ∀ (sts : List Stp) l', (sts.length : Int) ≤ most → (∀ s ∈ sts, s.lt 100) → Bar l' (n + 1000) → Q (stD sts) (mup M b (.lst l'))) : sp__law_list [.ref b, .int most] M Q E := ⟨b, most, n, l, rfl, m0, m1, hb, hl, hn, q⟩
theorem mup_sw {M : Mp} {b p : PySem.Addr} {y z : MO} (h : b ≠ p) : mup (mup M p y) b z = mup (mup M b z) p y := by
  funext a; unfold mup
  by_cases e : a = b
  · subst e; rw [if_pos rfl, if_neg h, if_pos rfl]
  · rw [if_neg e]
    by_cases e2 : a = p
    · rw [if_pos e2, if_pos e2]
    · rw [if_neg e2, if_neg e2, if_neg e]
/-! #### _law_after m -/
structure sp__law_after_m (xs : List D) (M : Mp) (Q : DK) (E : XD) : Prop where
  ex : ∃ (s : Stp) (n : Int), xs = [s.d, .int n] ∧ Q (.int (s.ap n)) M
theorem len__law_after_m (xs : List D) (M : Mp) (Q : DK) (E : XD) : sp__law_after_m xs M Q E → xs.length = 2 := by
  rintro ⟨_, _, rfl, _⟩; rfl
theorem sp__law_after_m_ok {s : Stp} {n : Int} {M : Mp} {Q : DK} {E : XD} (q : Q (.int (s.ap n)) M) : sp__law_after_m [s.d, .int n] M Q E := ⟨s, n, rfl, q⟩
/-! #### _law_result m -/
structure sp__law_result_m (xs : List D) (M : Mp) (Q : DK) (E : XD) : Prop where
  ex : ∃ (l : List Stp) (n : Int), xs = [stD l, .int n] ∧ Q (.int (run l n)) M
theorem len__law_result_m (xs : List D) (M : Mp) (Q : DK) (E : XD) : sp__law_result_m xs M Q E → xs.length = 2 := by
  rintro ⟨_, _, rfl, _⟩; rfl
theorem sp__law_result_m_ok {l : List Stp} {n : Int} {M : Mp} {Q : DK} {E : XD} (q : Q (.int (run l n)) M) : sp__law_result_m [stD l, .int n] M Q E := ⟨l, n, rfl, q⟩
/-! #### _law_merged m -/
def optA (sh : Int) : List Stp := if sh ≠ 0 then [.add sh] else []
theorem mgA_end (f : List Stp) (sh : Int) : mgA f sh [] = f ++ optA sh := by
  rw [mgA, optA]
  by_cases h : sh ≠ 0
  · rw [if_pos h, if_pos h]
  · rw [if_neg h, if_neg h, List.append_nil]
theorem optA_0 : optA 0 = [] := rfl
theorem optA_ne {sh : Int} (h : sh ≠ 0) : optA sh = [.add sh] := by rw [optA, if_pos h]
theorem eqv_stL_nil (l : List Stp) : PyData.eqv (.list (l.map Stp.pd)) (.list []) = l.isEmpty := by
  cases l with
  | nil => rfl
  | cons p ps => rfl
theorem shaped_stL (l : List Stp) : SeqAt.shaped (.list (l.map Stp.pd)) = true := by
  unfold SeqAt.shaped
  rw [PyData.canLay0, lay_st, PyData.depth, depth_st]
  rfl
structure sp__law_merged_m (xs : List D) (M : Mp) (Q : DK) (E : XD) : Prop where
  ex : ∃ (d : D) (l : List Stp), xs = [d] ∧ (d = stD l ∨ d = .lst (l.map Stp.d)) ∧ l.length ≤ 1000000 ∧ Q (stD (mgd l)) M
theorem sp__law_merged_m_t {l : List Stp} {M : Mp} {Q : DK} {E : XD} (h : l.length ≤ 1000000) (q : Q (stD (mgd l)) M) : sp__law_merged_m [stD l] M Q E := ⟨_, l, rfl, .inl rfl, h, q⟩
theorem sp__law_merged_m_l {l : List Stp} {M : Mp} {Q : DK} {E : XD} (h : l.length ≤ 1000000) (q : Q (stD (mgd l)) M) : sp__law_merged_m [.lst (l.map Stp.d)] M Q E := ⟨_, l, rfl, .inr rfl, h, q⟩
theorem len__law_merged_m (xs : List D) (M : Mp) (Q : DK) (E : XD) : sp__law_merged_m xs M Q E → xs.length = 1 := by
  rintro ⟨_, _, rfl, _⟩; rfl
/-! #### m_read -/
/-- the number with these lowest bits -/
def valL : List Int → Int
  | [] => 0
  | b :: r => b + 2 * valL r
theorem valL_snoc : ∀ (a : List Int) (b : Int), valL (a ++ [b]) = valL a + b * 2 ^ a.length
  | [], b => by simp [valL]
  | x :: a, b => by
    show x + 2 * valL (a ++ [b]) = x + 2 * valL a + b * 2 ^ (a.length + 1)
    rw [valL_snoc a b, Int.pow_succ]
    have : b * (2 ^ a.length * 2) = 2 * (b * 2 ^ a.length) := by rw [← Int.mul_assoc, Int.mul_comm]
    rw [this, Int.mul_add, Int.add_assoc]
theorem valL_lt : ∀ (a : List Int), (∀ b ∈ a, b = 0 ∨ b = 1) → 0 ≤ valL a ∧ valL a < 2 ^ a.length
  | [], _ => ⟨Int.le_refl _, by decide⟩
  | b :: a, h => by
    obtain ⟨h1, h2⟩ := valL_lt a fun x hx => h x (List.mem_cons_of_mem _ hx)
    have hb := h b List.mem_cons_self
    have e : (2 : Int) ^ (a.length + 1) = 2 * 2 ^ a.length := by rw [Int.pow_succ, Int.mul_comm]
    show 0 ≤ b + 2 * valL a ∧ b + 2 * valL a < 2 ^ (a.length + 1)
    rw [e]
    omega
theorem sv_fin : ∀ (bs : List Int) (s : Sta) (n : Int), sv s (n * 2 ^ bs.length + valL bs) = sv (fin s bs) n * 2 ^ bs.length + valL (wrt s bs)
  | [], s, n => by simp [valL, fin, wrt]
  | b :: bs, s, n => by
    have e : n * 2 ^ (bs.length + 1) + (b + 2 * valL bs) = 2 * (n * 2 ^ bs.length + valL bs) + b := by
      have : n * (2 ^ bs.length * 2) = 2 * (n * 2 ^ bs.length) := by rw [← Int.mul_assoc, Int.mul_comm]
      rw [Int.pow_succ, this, Int.mul_add]; omega
    have e2 : sv (fin (rdB s b).2 bs) n * 2 ^ (bs.length + 1) = 2 * (sv (fin (rdB s b).2 bs) n * 2 ^ bs.length) := by
      rw [Int.pow_succ, ← Int.mul_assoc, Int.mul_comm]
    show sv s (n * 2 ^ (bs.length + 1) + (b + 2 * valL bs)) = sv (fin (rdB s b).2 bs) n * 2 ^ (bs.length + 1) + ((rdB s b).1 + 2 * valL (wrt (rdB s b).2 bs))
    rw [e, rdB_val, sv_fin bs, e2, Int.mul_add]; omega
theorem nf_congr : ∀ (f : List Stp) {x y : List Stp}, nf x = nf y → nf (f ++ x) = nf (f ++ y)
  | [], _, _, h => h
  | .add k :: f, x, y, h => by
    have ih := nf_congr f h
    show (k + (nf (f ++ x)).1, (nf (f ++ x)).2) = (k + (nf (f ++ y)).1, (nf (f ++ y)).2)
    rw [ih]
  | .mk m :: f, x, y, h => by
    have ih := nf_congr f h
    show (0, (m, (nf (f ++ x)).1) :: (nf (f ++ x)).2) = (0, (m, (nf (f ++ y)).1) :: (nf (f ++ y)).2)
    rw [ih]
theorem nf_mgA : ∀ (l f : List Stp) (sh : Int), nf (mgA f sh l) = nf (f ++ .add sh :: l)
  | [], f, sh => by
    rw [mgA]
    split
    · rfl
    · rename_i h
      have h : sh = 0 := by omega
      subst h
      have := nf_congr f (x := [.add 0]) (y := []) rfl
      rw [this, List.append_nil]
  | .mk m :: r, f, sh => by
    rw [mgA, nf_mgA r, List.append_assoc]
    refine nf_congr f ?_
    split
    · show (sh + 0, (m, 0 + (nf r).1) :: (nf r).2) = (sh + 0, (m, (nf r).1) :: (nf r).2)
      rw [Int.zero_add]
    · rename_i h
      have h : sh = 0 := by omega
      subst h
      show ((0 : Int), (m, 0 + (nf r).1) :: (nf r).2) = (0 + 0, (m, (nf r).1) :: (nf r).2)
      rw [Int.zero_add, Int.zero_add]
  | .add k :: r, f, sh => by
    rw [mgA, nf_mgA r]
    refine nf_congr f ?_
    show (sh + k + (nf r).1, (nf r).2) = (sh + (k + (nf r).1), (nf r).2)
    rw [Int.add_assoc]
theorem nf_mgd (l : List Stp) : nf (mgd l) = nf l := by
  rw [mgd, nf_mgA]
  show (0 + (nf l).1, (nf l).2) = nf l
  rw [Int.zero_add]
theorem read_congr : ∀ (bs : List Int) (s t : Sta), snf s = snf t → wrt s bs = wrt t bs ∧ snf (fin s bs) = snf (fin t bs)
  | [], s, t, h => ⟨rfl, h⟩
  | b :: bs, s, t, h => by
    obtain ⟨a1, a2⟩ := rdB_nf s b
    obtain ⟨b1, b2⟩ := rdB_nf t b
    rw [h] at a1 a2
    obtain ⟨c1, c2⟩ := read_congr bs (rdB s b).2 (rdB t b).2 (a2.trans b2.symm)
    refine ⟨?_, c2⟩
    rw [wrt, wrt, c1, a1.trans b1.symm]
theorem snf_again (s : Sta) : snf (startOf (stepsOf s)) = snf s := by rw [snf_start, stepsOf, nf_mgd, nf_staL]
theorem stepsOf_congr {s t : Sta} (h : snf s = snf t) : stepsOf s = stepsOf t := mgd_nf (by rw [nf_staL, nf_staL, h])
/-- the masks of steps -/
def mks : List Stp → List Mk
  | [] => []
  | .mk m :: r => m :: mks r
  | .add _ :: r => mks r
theorem mks_nf : ∀ l : List Stp, mks l = (nf l).2.map (·.1)
  | [] => rfl
  | .mk m :: r => by
    show m :: mks r = m :: (nf r).2.map (·.1)
    rw [mks_nf r]
  | .add k :: r => mks_nf r
theorem nfM_sub : ∀ (r : List (Mk × Int)) (sg : Int), ((nfM sg r).2.2.map (·.1)).Sublist (r.map (·.1))
  | [], _ => .slnil
  | (m, k) :: r, sg => by
    rw [nfM]
    split
    · exact (nfM_sub r _).cons _
    · exact (nfM_sub r _).cons_cons _
theorem fin_sub : ∀ (bs : List Int) (s : Sta), ((snf (fin s bs)).2.map (·.1)).Sublist ((snf s).2.map (·.1))
  | [], s => List.Sublist.refl _
  | b :: bs, s => by
    have h := fin_sub bs (rdB s b).2
    rw [(rdB_nf s b).2] at h
    exact h.trans (nfM_sub _ _)
theorem rest_sub (l : List Stp) (bs : List Int) : (mks (stepsOf (fin (startOf l) bs))).Sublist (mks l) := by
  rw [mks_nf, stepsOf, nf_mgd, nf_staL, mks_nf, ← snf_start]
  exact fin_sub bs (startOf l)
theorem sub_first {m : Mk} {R : List Mk} : ∀ {W : List Mk}, (m :: R).Sublist W → ∃ j, W[j]? = some m ∧ (∀ i, i < j → W[i]? ≠ some m) ∧ R.Sublist (W.drop (j + 1))
  | [], h => by cases h
  | w :: W, h => by
    by_cases e : w = m
    · subst e
      refine ⟨0, rfl, fun i hi => by omega, ?_⟩
      cases h with
      | cons _ h => exact (List.sublist_cons_self _ _).trans h
      | cons_cons _ h => exact h
    · cases h with
      | cons _ h =>
        obtain ⟨j, h1, h2, h3⟩ := sub_first h
        refine ⟨j + 1, h1, fun i hi => ?_, h3⟩
        cases i with
        | zero => intro z; injection z with z; exact e z
        | succ i => exact h2 i (by omega)
      | cons_cons _ h => exact absurd rfl e
abbrev mD (m : Mk) : D := .str m.st
theorem mD_vS : ∀ W : List Mk, vSs (W.map mD) = some (W.map fun m => L2.V.str m.st)
  | [] => rfl
  | m :: W => by rw [List.map_cons, vSs, mD_vS W]; rfl
theorem mk_st_inj {a b : Mk} (h : a.st = b.st) : a = b := by cases a <;> cases b <;> first | rfl | (revert h; decide +kernel)
theorem mD_in (m : Mk) : ∀ W : List Mk, L2.inV (.str m.st) (W.map fun m => L2.V.str m.st) = decide (m ∈ W)
  | [] => rfl
  | w :: W => by
    have ih := mD_in m W
    rw [List.map_cons]
    show ((w.st == m.st) || L2.inV (.str m.st) (W.map fun m => L2.V.str m.st)) = _
    rw [ih]
    by_cases e : m = w
    · subst e; simp
    · have : (w.st == m.st) = false := by
        cases h : w.st == m.st with
        | false => rfl
        | true => exact absurd (mk_st_inj (by simpa using h)).symm e
      rw [this]; simp [e]
theorem cutS_to (bs : List Int) (k : Nat) : L2.cutS (wordS bs) none (some (k : Int)) = wordS (bs.take k) := by
  refine TL.ext_tl ?_
  unfold L2.cutS
  rw [HT.sIx_nat, HT.sIx_none, wordS_len]
  show (((bs.map sgn).drop 0).take (min k bs.length - 0)).toArray.toList = ((bs.take k).map sgn)
  rw [List.drop_zero, Nat.sub_zero, List.map_take]
  show (bs.map sgn).take (min k bs.length) = _
  rw [← List.length_map (f := sgn) (as := bs), ← List.take_take, List.take_length]
theorem cutS_from (bs : List Int) (k : Nat) (h : k ≤ bs.length) : L2.cutS (wordS bs) (some (k : Int)) none = wordS (bs.drop k) := by
  refine TL.ext_tl ?_
  unfold L2.cutS
  rw [HT.sIx_nat, HT.sIx_none, wordS_len, Nat.min_eq_left h]
  show (((bs.map sgn).drop k).take (bs.length - k)).toArray.toList = ((bs.drop k).map sgn)
  rw [List.map_drop]
  show ((bs.map sgn).drop k).take (bs.length - k) = _
  exact List.take_of_length_le (by rw [List.length_drop, List.length_map]; omega)
theorem sp_read_word_o {C1 C2 : Addr} {l : List Stp} {bs : List Int} {M : Mp} {Q : DK} {E : XD} (h : l.length ≤ 100000) (hb : bs.length ≤ 200) (h01 : ∀ b ∈ bs, b = 0 ∨ b = 1) (q : ∀ w r, w = wordS (wrt (startOf l) bs) → r = stepsOf (fin (startOf l) bs) → Q (.tup [.str w, stD r]) M) : sp_read_word C1 C2 [stD l, .str (wordS bs)] M Q E :=
  sp_read_word_ok h hb h01 (q _ _ rfl rfl)
theorem mks_app : ∀ a b : List Stp, mks (a ++ b) = mks a ++ mks b
  | [], _ => rfl
  | .mk m :: a, b => by
    show m :: mks (a ++ b) = m :: (mks a ++ mks b)
    rw [mks_app a b]
  | .add _ :: a, b => mks_app a b
theorem mks_len : ∀ a : List Stp, (mks a).length ≤ a.length
  | [] => Nat.le_refl _
  | .mk m :: a => Nat.succ_le_succ (mks_len a)
  | .add _ :: a => Nat.le_succ_of_le (mks_len a)
/-! bits of numbers -/
theorem ap_wr (m : Mk) : ∀ (j : Nat) (v : Int), (∀ i, i < j → v / 2 ^ i % 2 ≠ m.trig) → m.ap v / 2 ^ j % 2 = m.wr
  | 0, v, _ => by
    rw [Mk.ap_bit, Int.pow_zero, Int.ediv_one]
    have := wr_01 m
    omega
  | j + 1, v, h => by
    have h0 : v % 2 ≠ m.trig := by
      have := h 0 (by omega)
      rwa [Int.pow_zero, Int.ediv_one] at this
    have e : m.ap v / 2 = m.ap (v / 2) := by
      rw [Mk.ap_bit m v, if_neg h0]
      have := wr_01 m
      omega
    rw [ediv_pow_succ, e]
    exact ap_wr m j (v / 2) fun i hi => by rw [← ediv_pow_succ]; exact h (i + 1) (by omega)
theorem ap_over (m : Mk) : ∀ (k : Nat) (v : Int), v / 2 ^ k % 2 = m.trig → (∀ i, i < k → v / 2 ^ i % 2 ≠ m.trig) → m.ap v / 2 ^ (k + 1) = v / 2 ^ (k + 1)
  | 0, v, h, _ => by
    rw [Int.pow_zero, Int.ediv_one] at h
    rw [Mk.ap_bit, if_pos h]
    have := wr_01 m
    show (2 * (v / 2) + m.wr) / 2 = v / 2
    omega
  | k + 1, v, h, hl => by
    have h0 : v % 2 ≠ m.trig := by
      have := hl 0 (by omega)
      rwa [Int.pow_zero, Int.ediv_one] at this
    have e : m.ap v / 2 = m.ap (v / 2) := by
      rw [Mk.ap_bit m v, if_neg h0]
      have := wr_01 m
      omega
    rw [ediv_pow_succ, e, ediv_pow_succ (v := v)]
    exact ap_over m k (v / 2) (by rw [← ediv_pow_succ]; exact h) fun i hi => by rw [← ediv_pow_succ]; exact hl (i + 1) (by omega)
theorem ediv_pow_add (v : Int) (a : Nat) : ∀ b : Nat, v / 2 ^ (a + b) = v / 2 ^ a / 2 ^ b
  | 0 => by rw [Nat.add_zero, Int.pow_zero, Int.ediv_one]
  | b + 1 => by rw [← Nat.add_assoc, ediv_pow_succ', ediv_pow_add v a b, ediv_pow_succ']
theorem metBy_lt {t : Nat × Mk × Int} {k : Nat} : ∀ {j : Nat}, metBy t j = some k → k < j
  | 0, h => by cases h
  | j + 1, h => by
    rw [metBy] at h
    cases e : metBy t j with
    | some k' =>
      rw [e] at h
      cases h
      have := metBy_lt e
      omega
    | none =>
      rw [e] at h
      by_cases hc : t.2.2 / 2 ^ j % 2 = t.2.1.trig
      · rw [if_pos hc] at h
        cases h
        omega
      · rw [if_neg hc] at h
        cases h
/-- the bit behind a mask -/
theorem ap_bitAt (t : Nat × Mk × Int) (j : Nat) : t.2.1.ap t.2.2 / 2 ^ j % 2 = if (metBy t j).isSome = true then t.2.2 / 2 ^ j % 2 else t.2.1.wr := by
  cases e : metBy t j with
  | none => exact ap_wr _ j _ (metBy_none e)
  | some k =>
    have hk := metBy_lt e
    obtain ⟨h1, h2⟩ := metBy_some e
    have h3 := ap_over t.2.1 k t.2.2 h1 h2
    have ej : j = (k + 1) + (j - (k + 1)) := by omega
    show _ = t.2.2 / 2 ^ j % 2
    rw [ej, ediv_pow_add _ (k + 1), ediv_pow_add _ (k + 1), h3]
/-- the lowest bits -/
def nBits : Int → Nat → List Int
  | _, 0 => []
  | v, k + 1 => v % 2 :: nBits (v / 2) k
theorem nBits_len : ∀ (k : Nat) (v : Int), (nBits v k).length = k
  | 0, _ => rfl
  | k + 1, v => by rw [nBits, List.length_cons, nBits_len k]
theorem nBits_01 : ∀ (k : Nat) (v : Int), ∀ b ∈ nBits v k, b = 0 ∨ b = 1
  | 0, _, b, h => by cases h
  | k + 1, v, b, h => by
    rcases List.mem_cons.mp h with rfl | h
    · omega
    · exact nBits_01 k _ b h
theorem nBits_val : ∀ (k : Nat) (v : Int), v / 2 ^ k * 2 ^ k + valL (nBits v k) = v
  | 0, v => by simp [nBits, valL]
  | k + 1, v => by
    have h := nBits_val k (v / 2)
    have e : v / 2 / 2 ^ k * 2 ^ (k + 1) = 2 * (v / 2 / 2 ^ k * 2 ^ k) := by rw [Int.pow_succ, ← Int.mul_assoc, Int.mul_comm]
    show v / 2 ^ (k + 1) * 2 ^ (k + 1) + (v % 2 + 2 * valL (nBits (v / 2) k)) = v
    rw [ediv_pow_succ, e]
    omega
theorem nBits_snoc : ∀ (k : Nat) (v : Int), nBits v (k + 1) = nBits v k ++ [v / 2 ^ k % 2]
  | 0, v => by simp [nBits]
  | k + 1, v => by
    have h := nBits_snoc k (v / 2)
    show v % 2 :: nBits (v / 2) (k + 1) = v % 2 :: (nBits (v / 2) k ++ [v / 2 ^ (k + 1) % 2])
    rw [h, ediv_pow_succ]
theorem nBits_at : ∀ {k i : Nat} {v : Int}, i < k → (nBits v k)[i]? = some (v / 2 ^ i % 2)
  | 0, _, _, h => absurd h (Nat.not_lt_zero _)
  | k + 1, 0, v, _ => by simp [nBits]
  | k + 1, i + 1, v, h => by
    rw [nBits, List.getElem?_cons_succ, nBits_at (by omega), ediv_pow_succ]
theorem nBits_of : ∀ (bs : List Int) (x : Int), (∀ b ∈ bs, b = 0 ∨ b = 1) → nBits (x * 2 ^ bs.length + valL bs) bs.length = bs
  | [], _, _ => rfl
  | b :: bs, x, h => by
    have hb := h b List.mem_cons_self
    have e : x * 2 ^ (bs.length + 1) = 2 * (x * 2 ^ bs.length) := by rw [Int.pow_succ, ← Int.mul_assoc, Int.mul_comm]
    show nBits (x * 2 ^ (bs.length + 1) + (b + 2 * valL bs)) (bs.length + 1) = _
    rw [nBits, e, show (2 * (x * 2 ^ bs.length) + (b + 2 * valL bs)) % 2 = b by omega, show (2 * (x * 2 ^ bs.length) + (b + 2 * valL bs)) / 2 = x * 2 ^ bs.length + valL bs by omega,
      nBits_of bs x fun y hy => h y (List.mem_cons_of_mem _ hy)]
theorem nBits_mod (v w : Int) (k : Nat) (h : v % 2 ^ k = w % 2 ^ k) : nBits v k = nBits w k := by
  have hv := nBits_val k v
  have hw := nBits_val k w
  have lv := valL_lt _ (nBits_01 k v)
  have lw := valL_lt _ (nBits_01 k w)
  rw [nBits_len] at lv lw
  have e : ∀ a r : Int, 0 ≤ r → r < 2 ^ k → (a * 2 ^ k + r) % 2 ^ k = r := fun a r h0 h1 => by
    rw [Int.add_comm, Int.add_mul_emod_self_right]
    exact Int.emod_eq_of_lt h0 h1
  have e1 : valL (nBits v k) = v % 2 ^ k := by rw [← e (v / 2 ^ k) _ lv.1 lv.2, hv]
  have e2 : valL (nBits w k) = w % 2 ^ k := by rw [← e (w / 2 ^ k) _ lw.1 lw.2, hw]
  have := nBits_of (nBits w k) (v / 2 ^ k) (nBits_01 k w)
  rw [nBits_len, e2, ← h, ← e1, hv] at this
  exact this
/-- what is written for the lowest bits of a number are the lowest bits of the result -/
theorem wrt_bits (l : List Stp) (v : Int) (k : Nat) : wrt (startOf l) (nBits v k) = nBits (run l v) k := by
  have h := sv_fin (nBits v k) (startOf l) (v / 2 ^ k)
  rw [nBits_len, nBits_val, sv_start] at h
  have := nBits_of (wrt (startOf l) (nBits v k)) (sv (fin (startOf l) (nBits v k)) (v / 2 ^ k)) (wrt_bit _ _)
  rw [wrt_len, nBits_len, ← h] at this
  exact this.symm
/-- the rest, for what is above -/
theorem run_rest (l : List Stp) (v : Int) (k : Nat) : run (stepsOf (fin (startOf l) (nBits v k))) (v / 2 ^ k) * 2 ^ k + valL (nBits (run l v) k) = run l v := by
  have h := sv_fin (nBits v k) (startOf l) (v / 2 ^ k)
  rw [nBits_len, nBits_val, sv_start, ← run_stepsOf, wrt_bits] at h
  exact h.symm
/-! #### _law_plain m -/
structure sp__law_plain_m (xs : List D) (M : Mp) (Q : DK) (E : XD) : Prop where
  ex : ∃ (l : List Stp), xs = [stD l] ∧ l.length ≤ 1000 ∧ Q (stD (pln l)) M
theorem len__law_plain_m (xs : List D) (M : Mp) (Q : DK) (E : XD) : sp__law_plain_m xs M Q E → xs.length = 1 := by
  rintro ⟨_, rfl, _⟩; rfl
theorem sp__law_plain_m_ok {l : List Stp} {M : Mp} {Q : DK} {E : XD} (h : l.length ≤ 1000) (q : Q (stD (pln l)) M) : sp__law_plain_m [stD l] M Q E := ⟨l, rfl, h, q⟩
/-! #### _law_exchanged m -/
structure sp__law_exchanged_m (xs : List D) (M : Mp) (Q : DK) (E : XD) : Prop where
  ex : ∃ (l : List Stp), xs = [stD l] ∧ l.length ≤ 1000 ∧ Q (stD (exd l)) M
theorem len__law_exchanged_m (xs : List D) (M : Mp) (Q : DK) (E : XD) : sp__law_exchanged_m xs M Q E → xs.length = 1 := by
  rintro ⟨_, rfl, _⟩; rfl
theorem sp__law_exchanged_m_ok {l : List Stp} {M : Mp} {Q : DK} {E : XD} (h : l.length ≤ 1000) (q : Q (stD (exd l)) M) : sp__law_exchanged_m [stD l] M Q E := ⟨l, rfl, h, q⟩
/-! #### _law_number m -/
def sp__law_number_m : DSp := fun xs M Q _ => ∃ (b : Addr) (n : Int) (l : List D), xs = [.ref b] ∧ M b = some (.lst l) ∧ Bar l n ∧ n < 2 ^ 59 ∧
  ∀ v l', v.natAbs < 2 ^ 210 → Bar l' (n + 10) → Q (.int v) (mup M b (.lst l'))
theorem len__law_number_m (xs : List D) (M : Mp) (Q : DK) (E : XD) : sp__law_number_m xs M Q E → xs.length = 1 := by
  rintro ⟨_, _, _, rfl, _⟩; rfl
/-! #### _law_bits m -/
def intsD (bs : List Int) : List D := bs.map D.int
structure sp__law_bits_m (xs : List D) (M : Mp) (Q : DK) (E : XD) : Prop where
  ex : ∃ (v : Int) (k : Nat), xs = [.int v, .int k] ∧ k ≤ 1000 ∧ Q (.lst (intsD (nBits v k))) M
theorem len__law_bits_m (xs : List D) (M : Mp) (Q : DK) (E : XD) : sp__law_bits_m xs M Q E → xs.length = 2 := by
  rintro ⟨_, _, rfl, _⟩; rfl
theorem sp__law_bits_m_ok {v : Int} {k : Nat} {M : Mp} {Q : DK} {E : XD} (h : k ≤ 1000) (q : Q (.lst (intsD (nBits v k))) M) : sp__law_bits_m [.int v, .int k] M Q E := ⟨v, k, rfl, h, q⟩
/-! #### _law_value m -/
structure sp__law_value_m (xs : List D) (M : Mp) (Q : DK) (E : XD) : Prop where
  ex : ∃ (bs : List Int), xs = [.lst (intsD bs)] ∧ bs.length ≤ 1000 ∧ (∀ b ∈ bs, b = 0 ∨ b = 1) ∧ Q (.int (valL bs)) M
theorem len__law_value_m (xs : List D) (M : Mp) (Q : DK) (E : XD) : sp__law_value_m xs M Q E → xs.length = 1 := by
  rintro ⟨_, rfl, _⟩; rfl
theorem sp__law_value_m_ok {bs : List Int} {M : Mp} {Q : DK} {E : XD} (h : bs.length ≤ 1000) (h01 : ∀ b ∈ bs, b = 0 ∨ b = 1) (q : Q (.int (valL bs)) M) : sp__law_value_m [.lst (intsD bs)] M Q E := ⟨bs, rfl, h, h01, q⟩
/-! #### _law_word m -/
structure sp__law_word_m (xs : List D) (M : Mp) (Q : DK) (E : XD) : Prop where
  ex : ∃ (bs : List Int), xs = [.lst (intsD bs)] ∧ bs.length ≤ 1000 ∧ (∀ b ∈ bs, b = 0 ∨ b = 1) ∧ Q (.str (wordS bs)) M
theorem len__law_word_m (xs : List D) (M : Mp) (Q : DK) (E : XD) : sp__law_word_m xs M Q E → xs.length = 1 := by
  rintro ⟨_, rfl, _⟩; rfl
theorem sp__law_word_m_ok {bs : List Int} {M : Mp} {Q : DK} {E : XD} (h : bs.length ≤ 1000) (h01 : ∀ b ∈ bs, b = 0 ∨ b = 1) (q : Q (.str (wordS bs)) M) : sp__law_word_m [.lst (intsD bs)] M Q E := ⟨bs, rfl, h, h01, q⟩
theorem join_signs (bs : List Int) : Txt.join "" (bs.map fun b => (⟨#[sgn b]⟩ : Str)) = wordS bs := by
  refine TL.ext_tl ?_
  have h := SX.join_S [] (bs.map fun b => [sgn b])
  have e1 : SX.S [] = "" := by decide +kernel
  have e2 : (bs.map fun b => [sgn b]).map SX.S = bs.map fun b => (⟨#[sgn b]⟩ : Str) := by
    rw [List.map_map]
    rfl
  rw [e1, e2] at h
  show (Txt.join "" _).cps.toList = (bs.map sgn).toArray.toList
  rw [h]
  have : ∀ l : List Int, TL.joinL [] (l.map fun b => [sgn b]) = l.map sgn := fun l => by
    induction l with
    | nil => rfl
    | cons x l ih =>
      cases l with
      | nil => rfl
      | cons y l =>
        rw [List.map_cons, List.map_cons, TL.joinL]
        rw [List.map_cons] at ih
        rw [ih]
        rfl
  exact this bs
/-! #### m_run -/
/-! a run bit by bit, by values -/
def lft1 (v : Int) (j : Nat) : Stp → Stp
  | .add k => .add ((k + v % 2 ^ j) / 2 ^ j)
  | .mk m => .mk m
def lft : Int → Nat → List Stp → List Stp
  | _, _, [] => []
  | v, j, s :: r => lft1 v j s :: lft (s.ap v) j r
def met1 (v : Int) (j : Nat) : Stp → Option Nat
  | .add _ => none
  | .mk m => metBy (0, m, v) j
def flt : Int → Nat → List Stp → List Stp
  | _, _, [] => []
  | v, j, s :: r => if (met1 v j s).isSome = true then flt (s.ap v) j r else lft1 v j s :: flt (s.ap v) j r
theorem lft_len : ∀ (l : List Stp) (v : Int) (j : Nat), (lft v j l).length = l.length
  | [], _, _ => rfl
  | s :: r, v, j => by rw [lft, List.length_cons, lft_len r, List.length_cons]
theorem lft_at : ∀ (l : List Stp) (v : Int) (j i : Nat) (s : Stp), l[i]? = some s → (lft v j l)[i]? = some (lft1 (run (l.take i) v) j s)
  | [], _, _, _, _, h => by simp at h
  | x :: r, v, j, 0, s, h => by
    have : x = s := by simpa using h
    subst this
    rfl
  | x :: r, v, j, i + 1, s, h => by
    rw [lft, List.getElem?_cons_succ, lft_at r (x.ap v) j i s (by simpa using h)]
    rfl
theorem flt_app : ∀ (a b : List Stp) (v : Int) (j : Nat), flt v j (a ++ b) = flt v j a ++ flt (run a v) j b
  | [], _, _, _ => rfl
  | s :: a, b, v, j => by
    rw [List.cons_append, flt, flt, flt_app a b, run_cons]
    split <;> rfl
theorem flt_len : ∀ (l : List Stp) (v : Int) (j : Nat), (flt v j l).length ≤ l.length
  | [], _, _ => Nat.le_refl _
  | s :: r, v, j => by
    have := flt_len r (s.ap v) j
    rw [flt, List.length_cons]
    split
    · omega
    · rw [List.length_cons]; omega
/-- one bit through an addition -/
theorem carry (k v : Int) (j : Nat) : ((k + v % 2 ^ j) / 2 ^ j + v / 2 ^ j % 2) / 2 = (k + v % 2 ^ (j + 1)) / 2 ^ (j + 1) ∧ ((k + v % 2 ^ j) / 2 ^ j + v / 2 ^ j % 2) % 2 = (v + k) / 2 ^ j % 2 := by
  have p0 : (0 : Int) < 2 ^ j := Int.pow_pos (by decide)
  have e1 : v % 2 ^ (j + 1) = v % 2 ^ j + 2 ^ j * (v / 2 ^ j % 2) := by
    have a1 := Int.emod_add_mul_ediv v (2 ^ (j + 1))
    have a2 := Int.emod_add_mul_ediv v (2 ^ j)
    have a3 := Int.emod_add_mul_ediv (v / 2 ^ j) 2
    have a4 : v / 2 ^ (j + 1) = v / 2 ^ j / 2 := ediv_pow_succ' v j
    have a5 : (2 : Int) ^ (j + 1) * (v / 2 ^ j / 2) = 2 ^ j * (2 * (v / 2 ^ j / 2)) := by rw [Int.pow_succ, Int.mul_assoc]
    have a6 : (2 : Int) ^ j * (v / 2 ^ j) = 2 ^ j * (v / 2 ^ j % 2) + 2 ^ j * (2 * (v / 2 ^ j / 2)) := by rw [← Int.mul_add, a3]
    rw [a4, a5] at a1
    omega
  refine ⟨?_, ?_⟩
  · rw [ediv_pow_succ', e1]
    have : k + (v % 2 ^ j + 2 ^ j * (v / 2 ^ j % 2)) = (k + v % 2 ^ j) + 2 ^ j * (v / 2 ^ j % 2) := by omega
    rw [this, Int.add_mul_ediv_left _ _ (by omega)]
  · have : v + k = (k + v % 2 ^ j) + 2 ^ j * (v / 2 ^ j) := by
      have := Int.emod_add_mul_ediv v (2 ^ j)
      omega
    rw [this, Int.add_mul_ediv_left _ _ (by omega)]
    omega
abbrev prt0 (l : List Stp) : List Prt := l.map fun s => (0, s)
theorem uB_flt : ∀ (l : List Stp) (v : Int) (j : Nat), uB (v / 2 ^ j % 2) (prt0 (flt v j l)) = (run l v / 2 ^ j % 2, prt0 (flt v (j + 1) l))
  | [], v, j => rfl
  | .add k :: r, v, j => by
    have ih := uB_flt r (v + k) j
    obtain ⟨c1, c2⟩ := carry k v j
    rw [flt, if_neg (by rw [met1]; decide), flt, if_neg (by rw [met1]; decide), run_cons]
    show uB (v / 2 ^ j % 2) ((0, .add ((k + v % 2 ^ j) / 2 ^ j)) :: prt0 (flt (v + k) j r)) = (run r (v + k) / 2 ^ j % 2, (0, .add ((k + v % 2 ^ (j + 1)) / 2 ^ (j + 1))) :: prt0 (flt (v + k) (j + 1) r))
    rw [uB, c2, c1, ih]
  | .mk m :: r, v, j => by
    have ih := uB_flt r (m.ap v) j
    have hb : m.ap v / 2 ^ j % 2 = if (metBy (0, m, v) j).isSome = true then v / 2 ^ j % 2 else m.wr := ap_bitAt (0, m, v) j
    rw [flt, flt, run_cons]
    show uB (v / 2 ^ j % 2) (prt0 (if (metBy (0, m, v) j).isSome = true then flt (m.ap v) j r else .mk m :: flt (m.ap v) j r)) = (run r (m.ap v) / 2 ^ j % 2, prt0 (if (metBy (0, m, v) (j + 1)).isSome = true then flt (m.ap v) (j + 1) r else .mk m :: flt (m.ap v) (j + 1) r))
    rw [metBy]
    cases e : metBy (0, m, v) j with
    | some k =>
      rw [e] at hb
      rw [if_pos (c := (some k).isSome = true) rfl, Option.some_or, if_pos (c := (some k).isSome = true) rfl, ← ih, hb]
      rfl
    | none =>
      rw [e] at hb
      have hb : m.ap v / 2 ^ j % 2 = m.wr := hb
      rw [hb] at ih
      rw [if_neg (by decide), Option.none_or]
      show uB (v / 2 ^ j % 2) ((0, .mk m) :: prt0 (flt (m.ap v) j r)) = _
      rw [uB, ih]
      refine Prod.ext rfl ?_
      dsimp only
      by_cases ht : v / 2 ^ j % 2 = m.trig
      · rw [if_pos ht, if_pos ht, if_pos (c := (some j).isSome = true) rfl]
      · rw [if_neg ht, if_neg ht, if_neg (by decide)]
        rfl
theorem flt_0 : ∀ (l : List Stp) (v : Int), flt v 0 l = l
  | [], _ => rfl
  | .add k :: r, v => by
    rw [flt, if_neg (by rw [met1]; decide), flt_0 r]
    show Stp.add ((k + v % 2 ^ 0) / 2 ^ 0) :: r = _
    rw [Int.pow_zero, Int.ediv_one, Int.emod_one, Int.add_zero]
  | .mk m :: r, v => by
    rw [flt, if_neg (by rw [met1, metBy]; decide), flt_0 r]; rfl
theorem map_prt0 (l : List Stp) : (prt0 l).map (·.2) = l := by
  rw [List.map_map]
  exact (List.map_congr_left fun _ _ => rfl).trans (List.map_id _)
theorem nf_flt (l : List Stp) (v : Int) : ∀ j : Nat, nf (flt v j l) = snf (fin (startOf l) (nBits v j))
  | 0 => by rw [flt_0]; exact (snf_start l).symm
  | j + 1 => by
    have ih := nf_flt l v j
    have h := (uB_nf (prt0 (flt v j l)) (v / 2 ^ j % 2) (by omega)).2
    rw [uB_flt, map_prt0, map_prt0, ih] at h
    rw [h, nBits_snoc, fin_app]
    exact (rdB_nf _ _).2.symm
/-- the rest, merged -/
theorem mgd_flt (l : List Stp) (v : Int) (j : Nat) : mgd (flt v j l) = stepsOf (fin (startOf l) (nBits v j)) := by
  refine mgd_nf ?_
  rw [nf_flt, nf_staL]
/-- where the masks have ended by then -/
def metD (j : Nat) (t : Mk × Int) : D := match metBy (0, t.1, t.2) j with
  | some k => .int (k : Nat)
  | none => .non
theorem ends_met {v : Int} {l : List Stp} {j : Nat} (h : ∀ t ∈ msV v l, t.2.natAbs + 2 ≤ 2 ^ (j - 2) ∧ 2 ≤ j) : EndsV v l ((msV v l).map (metD j)) := by
  have : ∀ L : List (Mk × Int), (∀ t ∈ L, t.2.natAbs + 2 ≤ 2 ^ (j - 2) ∧ 2 ≤ j) → Paired (fun (t : Mk × Int) (d : D) => EndIs t.1 t.2 d) L (L.map (metD j)) := fun L => by
    induction L with
    | nil => intro _; exact .nil
    | cons t L ih =>
      intro h
      refine .cons ?_ (ih fun t ht => h t (List.mem_cons_of_mem _ ht))
      obtain ⟨h1, h2⟩ := h t List.mem_cons_self
      show EndIs t.1 t.2 (metD j t)
      unfold metD
      cases e : metBy (0, t.1, t.2) j with
      | some k =>
        obtain ⟨a1, a2⟩ := metBy_some e
        exact .inl ⟨k, rfl, a1, a2⟩
      | none =>
        have a := metBy_none e
        refine .inr ⟨rfl, fun i hi => ?_⟩
        -- the lowest such place lies among the first j bits
        have : ∃ k, t.2 / 2 ^ k % 2 = t.1.trig ∧ ∀ i, i < k → t.2 / 2 ^ i % 2 ≠ t.1.trig := by
          have key : ∀ n : Nat, (∀ i, i < n → t.2 / 2 ^ i % 2 ≠ t.1.trig) ∨ ∃ k, t.2 / 2 ^ k % 2 = t.1.trig ∧ ∀ i, i < k → t.2 / 2 ^ i % 2 ≠ t.1.trig := fun n => by
            induction n with
            | zero => exact .inl fun i hi => absurd hi (Nat.not_lt_zero _)
            | succ n ih =>
              rcases ih with ih | ih
              · by_cases hn : t.2 / 2 ^ n % 2 = t.1.trig
                · exact .inr ⟨n, hn, ih⟩
                · refine .inl fun i hi => ?_
                  by_cases e : i = n
                  · rw [e]; exact hn
                  · exact ih i (by omega)
              · exact .inr ih
          rcases key (i + 1) with k | k
          · exact absurd hi (k i (by omega))
          · exact k
        obtain ⟨k, k1, k2⟩ := this
        have kb := first_le (v := t.2) (n := j - 2) (by omega) (by cases t.1 <;> simp [Mk.trig]) k1 k2
        exact a k (by omega) k1
  exact this _ h
theorem kmx_le {lo hi : Int} (n : Nat) (h0 : 0 ≤ lo) (h : lo ≤ hi) : (if (if (n : Int) < hi then (n : Int) else hi) > lo then (if (n : Int) < hi then (n : Int) else hi) else lo) ≤ hi ∧ 0 ≤ (if (if (n : Int) < hi then (n : Int) else hi) > lo then (if (n : Int) < hi then (n : Int) else hi) else lo) := by
  split <;> split <;> omega
/-! #### _law_ends m -/
/-- a dict from indexes to places -/
structure DictE (ks : List Key) (vs : List D) (f : Nat → Option Nat) : Prop where
  len : ks.length = vs.length
  nd : ks.Nodup
  get : ∀ a, findD (keyN a) ks vs = (f a).map idN
theorem findD_nin {k : Key} : ∀ {ks : List Key} {vs : List D}, ks.length = vs.length → findD k ks vs = none → k ∉ ks
  | [], _, _, _ => by simp
  | k' :: ks, [], h, _ => by simp at h
  | k' :: ks, d :: ds, h, e => by
    rw [findD] at e
    by_cases hk : k' = k
    · rw [if_pos hk] at e; cases e
    · rw [if_neg hk] at e
      intro hm
      rcases List.mem_cons.mp hm with h1 | h1
      · exact hk h1.symm
      · exact findD_nin (by simpa using h) e h1
theorem DictE.put {ks : List Key} {vs : List D} {f : Nat → Option Nat} (h : DictE ks vs f) {a p : Nat} (ha : f a = none) : (ks ++ [keyN a]).Nodup ∧ DictE (ks ++ [keyN a]) (vs ++ [idN p]) (fun x => if x = a then some p else f x) := by
  have hn : keyN a ∉ ks := findD_nin h.len (by rw [h.get, ha]; rfl)
  have nd : (ks ++ [keyN a]).Nodup := by
    rw [List.nodup_append]
    exact ⟨h.nd, by simp, fun x hx y hy e => hn (by rw [List.mem_singleton.mp hy] at e; rw [← e]; exact hx)⟩
  refine ⟨nd, by rw [List.length_append, List.length_append, h.len]; rfl, nd, fun x => ?_⟩
  rw [findD_app h.len, h.get]
  by_cases hx : x = a
  · subst hx
    rw [ha, if_pos rfl]
    show (none : Option D).or (findD (keyN x) [keyN x] [idN p]) = some (idN p)
    rw [Option.none_or, findD, if_pos rfl]
  · rw [if_neg hx]
    have : findD (keyN x) [keyN a] [idN p] = none := by
      rw [findD, if_neg (fun e => hx (by
        have e : ((a : Int)) = (x : Int) := Sum.inl.inj e
        omega))]
      rfl
    rw [this, Option.or_none]
theorem DictE.congr {ks : List Key} {vs : List D} {f g : Nat → Option Nat} (h : DictE ks vs f) (e : ∀ a, f a = g a) : DictE ks vs g := ⟨h.len, h.nd, fun a => by rw [h.get, e]⟩
def metAt (n : Int) (row : List Stp) (j a : Nat) : Option Nat := match row[a]? with
  | some s => met1 (run (row.take a) n) j s
  | none => none
theorem metAt_0 (n : Int) (row : List Stp) (a : Nat) : metAt n row 0 a = none := by
  rw [metAt]
  cases row[a]? with
  | none => rfl
  | some s => cases s <;> rfl
theorem lft_0 : ∀ (l : List Stp) (v : Int), lft v 0 l = l
  | [], _ => rfl
  | .add k :: r, v => by
    rw [lft, lft_0 r]
    show Stp.add ((k + v % 2 ^ 0) / 2 ^ 0) :: r = _
    rw [Int.pow_zero, Int.ediv_one, Int.emod_one, Int.add_zero]
  | .mk m :: r, v => by rw [lft, lft_0 r]; rfl
def mixAt (n : Int) (row : List Stp) (j i a : Nat) : Option Nat := if a < i then metAt n row (j + 1) a else metAt n row j a
theorem mixAt_0 (n : Int) (row : List Stp) (j a : Nat) : mixAt n row j 0 a = metAt n row j a := by rw [mixAt, if_neg (by omega)]
theorem mixAt_end (n : Int) (row : List Stp) (j a : Nat) : mixAt n row j row.length a = metAt n row (j + 1) a := by
  rw [mixAt]
  by_cases h : a < row.length
  · rw [if_pos h]
  · rw [if_neg h, metAt, metAt, List.getElem?_eq_none (by omega)]
theorem mixAt_same {n : Int} {row : List Stp} {j i : Nat} (h : metAt n row j i = metAt n row (j + 1) i) (a : Nat) : mixAt n row j i a = mixAt n row j (i + 1) a := by
  rw [mixAt, mixAt]
  by_cases ha : a < i
  · rw [if_pos ha, if_pos (by omega)]
  · rw [if_neg ha]
    by_cases e : a = i
    · subst e; rw [if_pos (by omega), h]
    · rw [if_neg (by omega)]
theorem mixAt_put {n : Int} {row : List Stp} {j i p : Nat} (h : metAt n row (j + 1) i = some p) (a : Nat) : (if a = i then some p else mixAt n row j i a) = mixAt n row j (i + 1) a := by
  rw [mixAt, mixAt]
  by_cases e : a = i
  · subst e; rw [if_pos rfl, if_pos (by omega), h]
  · rw [if_neg e]
    by_cases ha : a < i
    · rw [if_pos ha, if_pos (by omega)]
    · rw [if_neg ha, if_neg (by omega)]
/-- three things of ours -/
def M3 (M : Mp) (p1 p2 p3 : Addr) (L : List D) (K : List Key) (V : List D) (O : List D) : Mp := mup (mup (mup M p1 (.lst L)) p2 (.dct K V)) p3 (.lst O)
section
variable {M : Mp} {p1 p2 p3 : Addr} {L L' V V' O O' : List D} {K K' : List Key}
theorem M3_1 (h12 : p1 ≠ p2) (h13 : p1 ≠ p3) : M3 M p1 p2 p3 L K V O p1 = some (.lst L) := by rw [M3, mup_ne h13, mup_ne h12, mup_same]
theorem M3_2 (h23 : p2 ≠ p3) : M3 M p1 p2 p3 L K V O p2 = some (.dct K V) := by rw [M3, mup_ne h23, mup_same]
theorem M3_3 : M3 M p1 p2 p3 L K V O p3 = some (.lst O) := mup_same
theorem M3_s1 (h12 : p1 ≠ p2) (h13 : p1 ≠ p3) : mup (M3 M p1 p2 p3 L K V O) p1 (.lst L') = M3 M p1 p2 p3 L' K V O := by
  funext a
  unfold M3 mup
  by_cases e : a = p1
  · subst e; rw [if_pos rfl, if_neg h13, if_neg h12, if_pos rfl]
  · simp only [if_neg e]
theorem M3_s2 (h23 : p2 ≠ p3) : mup (M3 M p1 p2 p3 L K V O) p2 (.dct K' V') = M3 M p1 p2 p3 L K' V' O := by
  funext a
  unfold M3 mup
  by_cases e : a = p2
  · subst e; rw [if_pos rfl, if_neg h23, if_pos rfl]
  · simp only [if_neg e]
theorem M3_s3 : mup (M3 M p1 p2 p3 L K V O) p3 (.lst O') = M3 M p1 p2 p3 L K V O' := mup_mup
theorem M3_rm (h12 : p1 ≠ p2) (h13 : p1 ≠ p3) (h23 : p2 ≠ p3) (h1 : M p1 = none) (h2 : M p2 = none) (h3 : M p3 = none) : mrm (mrm (mrm (M3 M p1 p2 p3 L K V O) p3) p1) p2 = M := by
  funext a
  unfold M3 mup mrm
  by_cases e2 : a = p2
  · subst e2; rw [if_pos rfl, h2]
  · rw [if_neg e2]
    by_cases e1 : a = p1
    · subst e1; rw [if_pos rfl, h1]
    · rw [if_neg e1]
      by_cases e3 : a = p3
      · subst e3; rw [if_pos rfl, h3]
      · rw [if_neg e3]
        dsimp only
        rw [if_neg e3, if_neg e2, if_neg e1]
end
structure sp__law_ends_m (xs : List D) (M : Mp) (Q : DK) (E : XD) : Prop where
  ex : ∃ (row : List Stp) (n : Int) (k : Nat), xs = [stD row, .int n, .int k] ∧ row.length ≤ 20 ∧ k ≤ 1000 ∧ Q (.tup [.lst ((msV n row).map (metD k)), .lst (intsD (nBits (run row n) k)), stD (flt n k row)]) M
theorem len__law_ends_m (xs : List D) (M : Mp) (Q : DK) (E : XD) : sp__law_ends_m xs M Q E → xs.length = 3 := by
  rintro ⟨_, _, _, rfl, _⟩; rfl
theorem sp__law_ends_m_ok {row : List Stp} {n : Int} {k : Nat} {M : Mp} {Q : DK} {E : XD} (h1 : row.length ≤ 20) (h2 : k ≤ 1000)
    (q : Q (.tup [.lst ((msV n row).map (metD k)), .lst (intsD (nBits (run row n) k)), stD (flt n k row)]) M) : sp__law_ends_m [stD row, .int n, .int k] M Q E := ⟨row, n, k, rfl, h1, h2, q⟩
/-! #### need_width -/
def sp_need_width (C : Addr) : DSp := fun xs M Q E => ∃ d, xs = [d] ∧ (tyD M d).isSome = true ∧ (isIntD d (.int 0) (.int 200) = true → Q .non M) ∧ (isIntD d (.int 0) (.int 200) = false → E (.ref C) none M)
theorem len_need_width {C : Addr} (xs : List D) (M : Mp) (Q : DK) (E : XD) : sp_need_width C xs M Q E → xs.length = 1 := by
  rintro ⟨_, rfl, _⟩; rfl
theorem sp_need_width_ok {C : Addr} {n : Int} {M : Mp} {Q : DK} {E : XD} (h0 : 0 ≤ n) (h1 : n ≤ 200) (q : Q .non M) : sp_need_width C [.int n] M Q E :=
  ⟨_, rfl, rfl, fun _ => q, fun e => by simp [isIntD, leB, geB] at e; omega⟩
/-! #### parts_at_zeros -/
/-- two states -/
abbrev Pr := Sta × Sta
def pairD (p : Pr) : D := .tup [staD p.1, staD p.2]
structure sp_parts_at_zeros (xs : List D) (M : Mp) (Q : DK) (E : XD) : Prop where
  ex : ∃ p : Pr, xs = [pairD p] ∧ p.1.2.length ≤ 100000 ∧ p.2.2.length ≤ 100000 ∧ Q (.bl (decide (sv p.1 0 ≠ sv p.2 0))) M
theorem len_parts_at_zeros (xs : List D) (M : Mp) (Q : DK) (E : XD) : sp_parts_at_zeros xs M Q E → xs.length = 1 := by
  rintro ⟨_, rfl, _⟩; rfl
/-! #### pairs_after -/
/-- the pair behind a bit -/
def nxtP (p : Pr) (b : Int) : Option Pr := if (rdB p.1 b).1 = (rdB p.2 b).1 then some ((rdB p.1 b).2, (rdB p.2 b).2) else none
def optPD : Option Pr → D
  | some p => pairD p
  | none => .non
structure sp_pairs_after (xs : List D) (M : Mp) (Q : DK) (E : XD) : Prop where
  ex : ∃ p : Pr, xs = [pairD p] ∧ p.1.2.length ≤ 100000 ∧ p.2.2.length ≤ 100000 ∧ Q (.lst [optPD (nxtP p 0), optPD (nxtP p 1)]) M
theorem len_pairs_after (xs : List D) (M : Mp) (Q : DK) (E : XD) : sp_pairs_after xs M Q E → xs.length = 1 := by
  rintro ⟨_, rfl, _⟩; rfl
end Lt
/-! the states that are met: how many behind so many bits -/
namespace Lt
open PySem PySem.Spec PyProof.Rows L2
/-- one bit through parts, with their indices -/
def ixM : Int → List Part → Int × Int × List Part
  | sg, [] => (sg, 0, [])
  | sg, p :: r =>
    if sg = p.2.1.trig then ((ixM ((p.2.2 + p.2.1.wr) % 2) r).1, (p.2.2 + p.2.1.wr) / 2 + (ixM ((p.2.2 + p.2.1.wr) % 2) r).2.1, (ixM ((p.2.2 + p.2.1.wr) % 2) r).2.2)
    else ((ixM ((p.2.2 + p.2.1.wr) % 2) r).1, 0, (p.1, p.2.1, (p.2.2 + p.2.1.wr) / 2 + (ixM ((p.2.2 + p.2.1.wr) % 2) r).2.1) :: (ixM ((p.2.2 + p.2.1.wr) % 2) r).2.2)
theorem rdA_ix : ∀ (r : List Part) (sg ah : Int) (f : List Part), (rdA sg ah f r).1 = (ixM sg r).1 ∧
    (f.isEmpty = true → (rdA sg ah f r).2.1 = ah + (ixM sg r).2.1 ∧ (rdA sg ah f r).2.2 = (ixM sg r).2.2) ∧
    (f.isEmpty = false → (rdA sg ah f r).2.1 = ah ∧ (rdA sg ah f r).2.2 = addL f (ixM sg r).2.1 ++ (ixM sg r).2.2)
  | [], sg, ah, f => by
    refine ⟨rfl, fun h => ⟨(Int.add_zero ah).symm, by rw [rdA]; rw [List.isEmpty_iff.mp h]; rfl⟩, fun h => ⟨rfl, ?_⟩⟩
    obtain ⟨f0, q, rfl, e⟩ := addL_map h 0 []
    show f0 ++ [q] = addL (f0 ++ [q]) 0 ++ []
    rw [e, List.append_nil, Int.add_zero]
  | p :: r, sg, ah, f => by
    rw [rdA, ixM]
    by_cases ht : sg = p.2.1.trig
    · rw [if_pos ht, if_pos ht]
      by_cases he : f.isEmpty = true
      · rw [if_pos he]
        obtain ⟨h1, h2, h3⟩ := rdA_ix r ((p.2.2 + p.2.1.wr) % 2) (ah + (p.2.2 + p.2.1.wr) / 2) f
        refine ⟨h1, fun _ => ⟨?_, (h2 he).2⟩, fun z => by rw [he] at z; cases z⟩
        rw [(h2 he).1, Int.add_assoc]
      · rw [if_neg he]
        have he : f.isEmpty = false := by simpa using he
        obtain ⟨h1, h2, h3⟩ := rdA_ix r ((p.2.2 + p.2.1.wr) % 2) ah (addL f ((p.2.2 + p.2.1.wr) / 2))
        have hz : (addL f ((p.2.2 + p.2.1.wr) / 2)).isEmpty = false := by
          obtain ⟨f0, q, rfl, e⟩ := addL_map he ((p.2.2 + p.2.1.wr) / 2) []
          rw [e]; simp
        refine ⟨h1, fun z => (by rw [he] at z; cases z), fun _ => ⟨(h3 hz).1, ?_⟩⟩
        rw [(h3 hz).2]
        obtain ⟨f0, q, rfl, e⟩ := addL_map he ((p.2.2 + p.2.1.wr) / 2) []
        rw [e, addL_snoc, addL_snoc]
        dsimp only
        rw [Int.add_assoc]
    · rw [if_neg ht, if_neg ht]
      obtain ⟨h1, h2, h3⟩ := rdA_ix r ((p.2.2 + p.2.1.wr) % 2) ah (f ++ [(p.1, p.2.1, (p.2.2 + p.2.1.wr) / 2)])
      have hz : (f ++ [(p.1, p.2.1, (p.2.2 + p.2.1.wr) / 2)]).isEmpty = false := by simp
      obtain ⟨g1, g2⟩ := h3 hz
      rw [addL_snoc] at g2
      refine ⟨h1, fun he => ⟨by rw [g1, Int.add_zero], ?_⟩, fun he => ⟨g1, ?_⟩⟩
      · rw [g2, List.isEmpty_iff.mp he]; rfl
      · obtain ⟨f0, q, rfl, e⟩ := addL_map he 0 []
        rw [g2, e, Int.add_zero]
        show ((f0 ++ [q]) ++ [_]) ++ _ = (f0 ++ [q]) ++ (_ :: _)
        simp only [List.append_assoc]
        rfl
def ixB (sg : Int) (s : Sta) : Int × Sta := ((ixM ((s.1 + sg) % 2) s.2).1, (s.1 + sg) / 2 + (ixM ((s.1 + sg) % 2) s.2).2.1, (ixM ((s.1 + sg) % 2) s.2).2.2)
theorem rdB_ix (s : Sta) (b : Int) : rdB s b = ixB b s := by
  obtain ⟨h1, h2, _⟩ := rdA_ix s.2 ((s.1 + b) % 2) ((s.1 + b) / 2) []
  obtain ⟨g1, g2⟩ := h2 rfl
  exact Prod.ext h1 (Prod.ext g1 g2)
/-- the sums between the masks, with their indices -/
def nI : List Prt → Sta
  | [] => (0, [])
  | (i, .add k) :: r => (k + (nI r).1, (nI r).2)
  | (i, .mk m) :: r => (0, (i, m, (nI r).1) :: (nI r).2)
theorem uB_nI : ∀ (ps : List Prt) (sg : Int), (sg = 0 ∨ sg = 1) → ixB sg (nI ps) = ((uB sg ps).1, nI (uB sg ps).2)
  | [], sg, h => by
    have e : (0 + sg) % 2 = sg := by omega
    have e2 : (0 + sg) / 2 = 0 := by omega
    show ((ixM ((0 + sg) % 2) []).1, (0 + sg) / 2 + (ixM ((0 + sg) % 2) []).2.1, (ixM ((0 + sg) % 2) []).2.2) = (sg, (0, []))
    rw [e, e2]; rfl
  | (i, .add k) :: r, sg, h => by
    have ih := uB_nI r ((k + sg) % 2) (by omega)
    have e : ((nI r).1 + (k + sg) % 2) % 2 = (k + (nI r).1 + sg) % 2 := by omega
    have e2 : (k + sg) / 2 + ((nI r).1 + (k + sg) % 2) / 2 = (k + (nI r).1 + sg) / 2 := by omega
    have i1 := congrArg Prod.fst ih
    have i2 := congrArg (fun t => t.2.1) ih
    have i3 := congrArg (fun t => t.2.2) ih
    unfold ixB at i1 i2 i3
    dsimp only at i1 i2 i3
    rw [e] at i1 i2 i3
    show ((ixM ((k + (nI r).1 + sg) % 2) (nI r).2).1, (k + (nI r).1 + sg) / 2 + (ixM ((k + (nI r).1 + sg) % 2) (nI r).2).2.1, (ixM ((k + (nI r).1 + sg) % 2) (nI r).2).2.2) = ((uB ((k + sg) % 2) r).1, ((k + sg) / 2 + (nI (uB ((k + sg) % 2) r).2).1, (nI (uB ((k + sg) % 2) r).2).2))
    rw [i1, i3, ← i2, ← e2, Int.add_assoc]
  | (i, .mk m) :: r, sg, h => by
    have hw : m.wr = 0 ∨ m.wr = 1 := by cases m <;> simp [Mk.wr]
    have ih := uB_nI r m.wr hw
    have e : (0 + sg) % 2 = sg := by omega
    have e2 : (0 + sg) / 2 = 0 := by omega
    have i1 := congrArg Prod.fst ih
    have i2 := congrArg (fun t => t.2.1) ih
    have i3 := congrArg (fun t => t.2.2) ih
    unfold ixB at i1 i2 i3
    dsimp only at i1 i2 i3
    show ((ixM ((0 + sg) % 2) ((i, m, (nI r).1) :: (nI r).2)).1, (0 + sg) / 2 + (ixM ((0 + sg) % 2) ((i, m, (nI r).1) :: (nI r).2)).2.1, (ixM ((0 + sg) % 2) ((i, m, (nI r).1) :: (nI r).2)).2.2) = _
    rw [e, e2, ixM, uB]
    dsimp only
    by_cases ht : sg = m.trig
    · rw [if_pos ht, if_pos ht]
      dsimp only
      rw [i1, i2, i3, Int.zero_add]
    · rw [if_neg ht, if_neg ht]
      dsimp only
      rw [i1, i2, i3, Int.zero_add]; rfl
def ixL : Nat → List Stp → List Prt
  | _, [] => []
  | i, s :: r => (i, s) :: ixL (i + 1) r
theorem stA_nI : ∀ (l : List Stp) (i : Nat) (sh : Int) (ps : List Part), stA i sh ps l = if ps.isEmpty = true then (sh + (nI (ixL i l)).1, (nI (ixL i l)).2) else (sh, addL ps (nI (ixL i l)).1 ++ (nI (ixL i l)).2)
  | [], i, sh, ps => by
    rw [stA]
    by_cases h : ps.isEmpty = true
    · rw [if_pos h, List.isEmpty_iff.mp h]
      show (sh, []) = (sh + 0, [])
      rw [Int.add_zero]
    · rw [if_neg h]
      obtain ⟨f0, q, rfl, e⟩ := addL_map (by simpa using h) 0 []
      show (sh, f0 ++ [q]) = (sh, addL (f0 ++ [q]) 0 ++ [])
      rw [e, Int.add_zero, List.append_nil]
  | .mk m :: r, i, sh, ps => by
    rw [stA, stA_nI r, if_neg (by simp), addL_snoc]
    have en : nI (ixL i (Stp.mk m :: r)) = (0, (i, m, (nI (ixL (i + 1) r)).1) :: (nI (ixL (i + 1) r)).2) := rfl
    rw [en]
    by_cases h : ps.isEmpty = true
    · rw [if_pos h, List.isEmpty_iff.mp h]
      show (sh, (i, m, 0 + (nI (ixL (i + 1) r)).1) :: (nI (ixL (i + 1) r)).2) = (sh + 0, _)
      rw [Int.add_zero, Int.zero_add]
    · rw [if_neg h]
      obtain ⟨f0, q, rfl, e⟩ := addL_map (by simpa using h) 0 []
      rw [e, Int.add_zero]
      simp only [List.append_assoc]
      rw [Int.zero_add]
      rfl
  | .add k :: r, i, sh, ps => by
    rw [stA]
    have en : nI (ixL i (Stp.add k :: r)) = (k + (nI (ixL (i + 1) r)).1, (nI (ixL (i + 1) r)).2) := rfl
    rw [en]
    by_cases h : ps.isEmpty = true
    · rw [if_pos h, stA_nI r, if_pos h, if_pos h]
      dsimp only
      rw [Int.add_assoc]
    · rw [if_neg h, stA_nI r]
      obtain ⟨f0, q, rfl, e⟩ := addL_map (by simpa using h) k []
      rw [e, if_neg (by simp), if_neg (by simp), addL_snoc, addL_snoc]
      dsimp only
      rw [Int.add_assoc]
theorem start_nI (l : List Stp) : startOf l = nI (ixL 0 l) := by
  rw [startOf, stA_nI]
  show (0 + (nI (ixL 0 l)).1, (nI (ixL 0 l)).2) = _
  rw [Int.zero_add]
/-- what is left behind j bits of v, with the indices -/
def fltI : Int → Nat → Nat → List Stp → List Prt
  | _, _, _, [] => []
  | v, j, i, s :: r => if (met1 v j s).isSome = true then fltI (s.ap v) j (i + 1) r else (i, lft1 v j s) :: fltI (s.ap v) j (i + 1) r
theorem uB_fltI : ∀ (l : List Stp) (v : Int) (j i : Nat), uB (v / 2 ^ j % 2) (fltI v j i l) = (run l v / 2 ^ j % 2, fltI v (j + 1) i l)
  | [], v, j, i => rfl
  | .add k :: r, v, j, i => by
    have ih := uB_fltI r (v + k) j (i + 1)
    obtain ⟨c1, c2⟩ := carry k v j
    rw [fltI, if_neg (by rw [met1]; decide), fltI, if_neg (by rw [met1]; decide), run_cons]
    show uB (v / 2 ^ j % 2) ((i, .add ((k + v % 2 ^ j) / 2 ^ j)) :: fltI (v + k) j (i + 1) r) = (run r (v + k) / 2 ^ j % 2, (i, .add ((k + v % 2 ^ (j + 1)) / 2 ^ (j + 1))) :: fltI (v + k) (j + 1) (i + 1) r)
    rw [uB, c2, c1, ih]
  | .mk m :: r, v, j, i => by
    have ih := uB_fltI r (m.ap v) j (i + 1)
    have hb : m.ap v / 2 ^ j % 2 = if (metBy (0, m, v) j).isSome = true then v / 2 ^ j % 2 else m.wr := ap_bitAt (0, m, v) j
    rw [fltI, fltI, run_cons]
    show uB (v / 2 ^ j % 2) (if (metBy (0, m, v) j).isSome = true then fltI (m.ap v) j (i + 1) r else (i, .mk m) :: fltI (m.ap v) j (i + 1) r) = (run r (m.ap v) / 2 ^ j % 2, if (metBy (0, m, v) (j + 1)).isSome = true then fltI (m.ap v) (j + 1) (i + 1) r else (i, .mk m) :: fltI (m.ap v) (j + 1) (i + 1) r)
    rw [metBy]
    cases e : metBy (0, m, v) j with
    | some k =>
      rw [e] at hb
      rw [if_pos (c := (some k).isSome = true) rfl, Option.some_or, if_pos (c := (some k).isSome = true) rfl, ← ih, hb]
      rfl
    | none =>
      rw [e] at hb
      have hb : m.ap v / 2 ^ j % 2 = m.wr := hb
      rw [hb] at ih
      rw [if_neg (by decide), Option.none_or]
      show uB (v / 2 ^ j % 2) ((i, .mk m) :: fltI (m.ap v) j (i + 1) r) = _
      rw [uB, ih]
      refine Prod.ext rfl ?_
      dsimp only
      by_cases ht : v / 2 ^ j % 2 = m.trig
      · rw [if_pos ht, if_pos ht, if_pos (c := (some j).isSome = true) rfl]
      · rw [if_neg ht, if_neg ht, if_neg (by decide)]
theorem fltI_0 : ∀ (l : List Stp) (v : Int) (i : Nat), fltI v 0 i l = ixL i l
  | [], _, _ => rfl
  | .add k :: r, v, i => by
    rw [fltI, if_neg (by rw [met1]; decide), fltI_0 r]
    show (i, Stp.add ((k + v % 2 ^ 0) / 2 ^ 0)) :: ixL (i + 1) r = _
    rw [Int.pow_zero, Int.ediv_one, Int.emod_one, Int.add_zero]; rfl
  | .mk m :: r, v, i => by
    rw [fltI, if_neg (by rw [met1, metBy]; decide), fltI_0 r]; rfl
theorem fin_nI (l : List Stp) (v : Int) : ∀ j : Nat, fin (startOf l) (nBits v j) = nI (fltI v j 0 l)
  | 0 => by rw [fltI_0]; exact start_nI l
  | j + 1 => by
    have ih := fin_nI l v j
    have h := uB_nI (fltI v j 0 l) (v / 2 ^ j % 2) (by omega)
    rw [uB_fltI] at h
    rw [nBits_snoc, fin_app, ih]
    show (rdB _ _).2 = _
    rw [rdB_ix, h]
/-! ### the lowest bits are all that is seen -/
theorem bit_mod (x : Int) (j : Nat) : x / 2 ^ j % 2 = x % 2 ^ (j + 1) / 2 ^ j := by
  have p0 : (0 : Int) < 2 ^ j := Int.pow_pos (by decide)
  have p1 : (0 : Int) < 2 ^ (j + 1) := Int.pow_pos (by decide)
  have pe : (2 : Int) ^ (j + 1) = 2 ^ j * 2 := Int.pow_succ ..
  have a1 := Int.emod_add_mul_ediv x (2 ^ (j + 1))
  have a2 : x = x % 2 ^ (j + 1) + 2 ^ j * (2 * (x / 2 ^ (j + 1))) := by
    rw [← Int.mul_assoc, ← pe]; omega
  have a3 : x / 2 ^ j = x % 2 ^ (j + 1) / 2 ^ j + 2 * (x / 2 ^ (j + 1)) := by
    conv => lhs; rw [a2]
    rw [Int.add_mul_ediv_left _ _ (by omega)]
  have b1 := Int.emod_nonneg x (show (2 : Int) ^ (j + 1) ≠ 0 by omega)
  have b2 := Int.emod_lt_of_pos x p1
  have b3 : 0 ≤ x % 2 ^ (j + 1) / 2 ^ j := Int.ediv_nonneg b1 (by omega)
  have b4 : x % 2 ^ (j + 1) / 2 ^ j < 2 := Int.ediv_lt_of_lt_mul p0 (by rw [Int.mul_comm, ← pe]; exact b2)
  rw [a3]; omega
theorem met_congr {m : Mk} {v u : Int} : ∀ {j : Nat}, v % 2 ^ j = u % 2 ^ j → metBy (0, m, v) j = metBy (0, m, u) j
  | 0, _ => rfl
  | j + 1, h => by
    have e1 : v % 2 ^ j = u % 2 ^ j := by
      have d : (2 : Int) ^ j ∣ 2 ^ (j + 1) := ⟨2, by rw [Int.pow_succ]⟩
      rw [← Int.emod_emod_of_dvd v d, ← Int.emod_emod_of_dvd u d, h]
    have e2 : v / 2 ^ j % 2 = u / 2 ^ j % 2 := by
      rw [bit_mod, bit_mod, h]
    rw [metBy, metBy, met_congr e1]
    show _ = (metBy (0, m, u) j).or (if u / 2 ^ j % 2 = m.trig then some j else none)
    rw [← e2]
theorem mod_of_le {v u : Int} {a b : Nat} (h : v % 2 ^ b = u % 2 ^ b) (hab : a ≤ b) : v % 2 ^ a = u % 2 ^ a := by
  have d : (2 : Int) ^ a ∣ 2 ^ b := ⟨2 ^ (b - a), by rw [← Int.pow_add]; congr 1; omega⟩
  rw [← Int.emod_emod_of_dvd v d, ← Int.emod_emod_of_dvd u d, h]
theorem bits_ext {v u : Int} : ∀ {j : Nat}, (∀ i, i < j → v / 2 ^ i % 2 = u / 2 ^ i % 2) → v % 2 ^ j = u % 2 ^ j
  | 0, _ => by simp [Int.emod_one]
  | j + 1, h => by
    have ih := bits_ext (v := v) (u := u) (j := j) fun i hi => h i (by omega)
    have hj := h j (by omega)
    have key : ∀ x : Int, x % 2 ^ (j + 1) = x % 2 ^ j + 2 ^ j * (x / 2 ^ j % 2) := fun x => by
      have a1 := Int.emod_add_mul_ediv x (2 ^ (j + 1))
      have a2 := Int.emod_add_mul_ediv x (2 ^ j)
      have a3 := Int.emod_add_mul_ediv (x / 2 ^ j) 2
      have a4 : x / 2 ^ (j + 1) = x / 2 ^ j / 2 := ediv_pow_succ' x j
      have a5 : (2 : Int) ^ (j + 1) * (x / 2 ^ j / 2) = 2 ^ j * (2 * (x / 2 ^ j / 2)) := by rw [Int.pow_succ, Int.mul_assoc]
      have a6 : (2 : Int) ^ j * (x / 2 ^ j) = 2 ^ j * (x / 2 ^ j % 2) + 2 ^ j * (2 * (x / 2 ^ j / 2)) := by rw [← Int.mul_add, a3]
      rw [a4, a5] at a1
      omega
    rw [key, key, ih, hj]
theorem bit_of {v u : Int} {i j : Nat} (h : v % 2 ^ j = u % 2 ^ j) (hi : i < j) : v / 2 ^ i % 2 = u / 2 ^ i % 2 := by
  have h' := mod_of_le h (show i + 1 ≤ j by omega)
  rw [bit_mod, bit_mod, h']
theorem ap_congr (m : Mk) {v u : Int} {j : Nat} (h : v % 2 ^ j = u % 2 ^ j) : m.ap v % 2 ^ j = m.ap u % 2 ^ j := bits_ext fun i hi => by
  have a := ap_bitAt (0, m, v) i
  have b := ap_bitAt (0, m, u) i
  have e := met_congr (m := m) (mod_of_le h (Nat.le_of_lt hi))
  rw [a, b, e]
  dsimp only
  rw [bit_of h hi]
theorem add_congr (k : Int) {v u : Int} {j : Nat} (h : v % 2 ^ j = u % 2 ^ j) : (v + k) % 2 ^ j = (u + k) % 2 ^ j := by
  rw [Int.add_emod, h, ← Int.add_emod]
theorem run_congr : ∀ (l : List Stp) {v u : Int} {j : Nat}, v % 2 ^ j = u % 2 ^ j → run l v % 2 ^ j = run l u % 2 ^ j
  | [], _, _, _, h => h
  | .add k :: r, _, _, _, h => by rw [run_cons, run_cons]; exact run_congr r (add_congr k h)
  | .mk m :: r, _, _, _, h => by rw [run_cons, run_cons]; exact run_congr r (ap_congr m h)
theorem fltI_congr : ∀ (l : List Stp) {v u : Int} {j : Nat} (i : Nat), v % 2 ^ j = u % 2 ^ j → fltI v j i l = fltI u j i l
  | [], _, _, _, _, _ => rfl
  | .add k :: r, v, u, j, i, h => by
    rw [fltI, fltI, fltI_congr r (i + 1) (show (Stp.add k).ap v % 2 ^ j = (Stp.add k).ap u % 2 ^ j from add_congr k h)]
    have e : lft1 v j (.add k) = lft1 u j (.add k) := by rw [lft1, lft1, h]
    rw [e]; rfl
  | .mk m :: r, v, u, j, i, h => by
    rw [fltI, fltI, fltI_congr r (i + 1) (show (Stp.mk m).ap v % 2 ^ j = (Stp.mk m).ap u % 2 ^ j from ap_congr m h)]
    have e : met1 v j (.mk m) = met1 u j (.mk m) := met_congr h
    rw [e]; rfl
theorem flt_congr : ∀ (l : List Stp) {v u : Int} {j : Nat}, v % 2 ^ j = u % 2 ^ j → flt v j l = flt u j l
  | [], _, _, _, _ => rfl
  | .add k :: r, v, u, j, h => by
    rw [flt, flt, flt_congr r (show (Stp.add k).ap v % 2 ^ j = (Stp.add k).ap u % 2 ^ j from add_congr k h)]
    have e : lft1 v j (.add k) = lft1 u j (.add k) := by rw [lft1, lft1, h]
    rw [e]; rfl
  | .mk m :: r, v, u, j, h => by
    rw [flt, flt, flt_congr r (show (Stp.mk m).ap v % 2 ^ j = (Stp.mk m).ap u % 2 ^ j from ap_congr m h)]
    have e : met1 v j (.mk m) = met1 u j (.mk m) := met_congr h
    rw [e]; rfl
/-- a mask that works through j bits writes its bit j times -/
theorem works_mod {m : Mk} {v : Int} {j : Nat} (h : metBy (0, m, v) j = none) : m.ap v % 2 ^ j = (-m.wr) % 2 ^ j := bits_ext fun i hi => by
  have a := ap_bitAt (0, m, v) i
  have hn : metBy (0, m, v) i = none := by
    cases e : metBy (0, m, v) i with
    | none => rfl
    | some k =>
      have : ∀ n, metBy (0, m, v) (i + n) = some k := fun n => by
        induction n with
        | zero => exact e
        | succ n ih => rw [← Nat.add_assoc, metBy, ih]; rfl
      have q := this (j - i)
      rw [show i + (j - i) = j by omega, h] at q
      cases q
  rw [hn] at a
  have a : m.ap v / 2 ^ i % 2 = m.wr := a
  rw [a]
  have hw : m.wr = 0 ∨ m.wr = 1 := by cases m <;> simp [Mk.wr]
  rcases hw with e | e
  · rw [e]; simp
  · rw [e]
    have p0 : (0 : Int) < 2 ^ i := Int.pow_pos (by decide)
    have : (-1 : Int) / 2 ^ i = -1 := by
      refine Int.ediv_eq_iff_of_pos p0 |>.mpr ⟨by omega, by omega⟩
    rw [this]; rfl
/-! ### the states behind t bits: few -/
/-- the states that may stand behind t bits: sh the least sum so far, c the number of additions so far -/
def cand (t : Nat) : Int → Nat → Nat → List Stp → List Sta
  | sh, c, _, [] => (List.range (c + 1)).map fun (q : Nat) => (sh + (q : Int), [])
  | sh, c, i, .add k :: r => cand t (sh + k / 2 ^ t) (c + 1) (i + 1) r
  | sh, c, i, .mk m :: r => (List.range (c + 1)).map (fun (q : Nat) => (sh + (q : Int), (i, m, (nI (fltI (-m.wr) t (i + 1) r)).1) :: (nI (fltI (-m.wr) t (i + 1) r)).2)) ++ cand t sh c (i + 1) r
theorem cand_len (t : Nat) : ∀ (l : List Stp) (sh : Int) (c i : Nat), (cand t sh c i l).length ≤ (l.length + 1) * (c + l.length + 1)
  | [], sh, c, i => by rw [cand, List.length_map, List.length_range]; simp
  | .add k :: r, sh, c, i => by
    have := cand_len t r (sh + k / 2 ^ t) (c + 1) (i + 1)
    rw [cand, List.length_cons]
    refine Nat.le_trans this ?_
    have : c + 1 + r.length + 1 = c + (r.length + 1) + 1 := by omega
    rw [this]
    exact Nat.mul_le_mul_right _ (by omega)
  | .mk m :: r, sh, c, i => by
    have := cand_len t r sh c (i + 1)
    rw [cand, List.length_append, List.length_map, List.length_range, List.length_cons, Nat.add_mul (r.length + 1) 1]
    have h2 : (r.length + 1) * (c + r.length + 1) ≤ (r.length + 1) * (c + (r.length + 1) + 1) := Nat.mul_le_mul_left _ (by omega)
    omega
theorem cand_mem (t : Nat) : ∀ (l : List Stp) (v sh x : Int) (c i : Nat), sh ≤ x → x ≤ sh + c → (x + (nI (fltI v t i l)).1, (nI (fltI v t i l)).2) ∈ cand t sh c i l
  | [], v, sh, x, c, i, h1, h2 => by
    rw [fltI, nI, cand]
    refine List.mem_map.mpr ⟨(x - sh).toNat, List.mem_range.mpr (by omega), ?_⟩
    dsimp only
    rw [show sh + ((x - sh).toNat : Int) = x by omega, Int.add_zero]
  | .add k :: r, v, sh, x, c, i, h1, h2 => by
    rw [fltI, if_neg (by rw [met1]; decide), cand]
    show (x + ((k + v % 2 ^ t) / 2 ^ t + (nI (fltI (v + k) t (i + 1) r)).1), (nI (fltI (v + k) t (i + 1) r)).2) ∈ _
    rw [← Int.add_assoc]
    have p0 : (0 : Int) < 2 ^ t := Int.pow_pos (by decide)
    have b1 := Int.emod_nonneg v (show (2 : Int) ^ t ≠ 0 by omega)
    have b2 := Int.emod_lt_of_pos v p0
    have c1 : k / 2 ^ t ≤ (k + v % 2 ^ t) / 2 ^ t := Int.ediv_le_ediv p0 (by omega)
    have c2 : (k + v % 2 ^ t) / 2 ^ t ≤ k / 2 ^ t + 1 := by
      have : (k + 2 ^ t) / 2 ^ t = k / 2 ^ t + 1 := by
        have := Int.add_mul_ediv_left k 1 (show (2 : Int) ^ t ≠ 0 by omega)
        rw [Int.mul_one] at this; exact this
      rw [← this]
      exact Int.ediv_le_ediv p0 (by omega)
    exact cand_mem t r (v + k) (sh + k / 2 ^ t) _ (c + 1) (i + 1) (by omega) (by omega)
  | .mk m :: r, v, sh, x, c, i, h1, h2 => by
    rw [fltI, cand]
    show (x + (nI (if (metBy (0, m, v) t).isSome = true then fltI (m.ap v) t (i + 1) r else (i, .mk m) :: fltI (m.ap v) t (i + 1) r)).1, (nI (if (metBy (0, m, v) t).isSome = true then fltI (m.ap v) t (i + 1) r else (i, .mk m) :: fltI (m.ap v) t (i + 1) r)).2) ∈ _
    cases e : metBy (0, m, v) t with
    | some k =>
      rw [if_pos (c := (some k).isSome = true) rfl]
      exact List.mem_append_right _ (cand_mem t r (m.ap v) sh x c (i + 1) h1 h2)
    | none =>
      rw [if_neg (by decide)]
      refine List.mem_append_left _ (List.mem_map.mpr ⟨(x - sh).toNat, List.mem_range.mpr (by omega), ?_⟩)
      rw [nI, fltI_congr r (i + 1) (works_mod e)]
      dsimp only
      rw [show sh + ((x - sh).toNat : Int) = x by omega, Int.add_zero]
/-- all states that may stand behind t bits -/
def candL (t : Nat) (l : List Stp) : List Sta := cand t 0 0 0 l
theorem candL_len (t : Nat) (l : List Stp) : (candL t l).length ≤ (l.length + 1) * (l.length + 1) := by
  have := cand_len t l 0 0 0
  rw [Nat.zero_add] at this; exact this
theorem fin_cand (l : List Stp) (v : Int) (t : Nat) : fin (startOf l) (nBits v t) ∈ candL t l := by
  rw [fin_nI]
  have := cand_mem t l v 0 0 0 0 (Int.le_refl _) (Int.le_refl _)
  rw [Int.zero_add] at this
  exact this
end Lt
/-! dicts as lists of pairs; states as keys; numbers counted by pairs of states -/
namespace Lt
open PySem PySem.Spec PyProof.Rows L2
instance instSta : DecidableEq Sta := inferInstance
instance instPr : DecidableEq Pr := @instDecidableEqProd Sta Sta instSta instSta
section
variable {α β γ : Type} [DecidableEq α]
def aget : List (α × β) → α → Option β
  | [], _ => none
  | p :: r, a => if p.1 = a then some p.2 else aget r a
def aset : List (α × β) → α → β → List (α × β)
  | [], _, _ => []
  | p :: r, a, b => (if p.1 = a then (p.1, b) else p) :: aset r a b
def aput (L : List (α × β)) (a : α) (b : β) : List (α × β) := if (aget L a).isSome = true then aset L a b else L ++ [(a, b)]
theorem aget_mem {a : α} {b : β} : ∀ {L : List (α × β)}, aget L a = some b → (a, b) ∈ L
  | [], h => by cases h
  | p :: r, h => by
    rw [aget] at h
    split at h
    · rename_i e
      cases h; subst e; exact List.mem_cons_self
    · exact List.mem_cons_of_mem _ (aget_mem h)
theorem aget_none {a : α} : ∀ {L : List (α × β)}, aget L a = none ↔ a ∉ L.map (·.1)
  | [] => by simp [aget]
  | p :: r => by
    rw [aget, List.map_cons, List.mem_cons, not_or]
    split
    · rename_i e
      simp [e]
    · rename_i e
      rw [aget_none (L := r)]
      exact ⟨fun h => ⟨fun z => e z.symm, h⟩, fun h => h.2⟩
theorem aget_of_mem {a : α} {b : β} : ∀ {L : List (α × β)}, (L.map (·.1)).Nodup → (a, b) ∈ L → aget L a = some b
  | [], _, h => by cases h
  | p :: r, hn, h => by
    rw [List.map_cons, List.nodup_cons] at hn
    rw [aget]
    rcases List.mem_cons.mp h with rfl | h
    · rw [if_pos rfl]
    · have : p.1 ≠ a := fun z => hn.1 (by rw [z]; exact List.mem_map_of_mem (f := (·.1)) h)
      rw [if_neg this]
      exact aget_of_mem hn.2 h
theorem aset_keys (a : α) (b : β) : ∀ L : List (α × β), (aset L a b).map (·.1) = L.map (·.1)
  | [] => rfl
  | p :: r => by rw [aset, List.map_cons, List.map_cons, aset_keys a b r]; split <;> rfl
theorem aput_keys (L : List (α × β)) (a : α) (b : β) : (aput L a b).map (·.1) = if a ∈ L.map (·.1) then L.map (·.1) else L.map (·.1) ++ [a] := by
  unfold aput
  by_cases h : a ∈ L.map (·.1)
  · rw [if_pos h, if_pos, aset_keys]
    cases e : aget L a with
    | none => exact absurd h (aget_none.mp e)
    | some b => rfl
  · rw [if_neg h, if_neg, List.map_append]; rfl
    rw [aget_none.mpr h]; simp
theorem aput_nodup {L : List (α × β)} (h : (L.map (·.1)).Nodup) (a : α) (b : β) : ((aput L a b).map (·.1)).Nodup := by
  rw [aput_keys]
  split
  · exact h
  · rename_i n
    exact List.nodup_append.mpr ⟨h, by simp, fun x hx y hy => by simp at hy; rw [hy]; exact fun z => n (z ▸ hx)⟩
theorem aput_mem {L : List (α × β)} {a x : α} {b : β} : x ∈ (aput L a b).map (·.1) ↔ x ∈ L.map (·.1) ∨ x = a := by
  rw [aput_keys]
  split
  · rename_i h
    exact ⟨.inl, fun z => z.elim id fun z => z ▸ h⟩
  · rw [List.mem_append, List.mem_singleton]
theorem aset_get (a : α) (b : β) (x : α) : ∀ L : List (α × β), aget (aset L a b) x = if x = a then (aget L a).map fun _ => b else aget L x
  | [] => by simp [aset, aget]
  | p :: r => by
    rw [aset, aget, aget, aget, aset_get a b x r]
    by_cases h1 : p.1 = a
    · simp only [h1, if_true]
      by_cases h2 : x = a
      · subst h2; simp
      · simp [h2, Ne.symm h2]
    · simp only [h1, if_false]
      by_cases h2 : x = a
      · subst h2; simp [h1]
      · simp [h2]
theorem aput_get (L : List (α × β)) (a : α) (b : β) (x : α) : aget (aput L a b) x = if x = a then some b else aget L x := by
  unfold aput
  cases e : aget L a with
  | some c =>
    rw [if_pos (by rfl), aset_get, e]; rfl
  | none =>
    rw [if_neg (by simp)]
    have app : ∀ L : List (α × β), aget L a = none → aget (L ++ [(a, b)]) x = if x = a then some b else aget L x := fun L => by
      induction L with
      | nil =>
        intro _
        show (if a = x then some b else none) = if x = a then some b else none
        by_cases h : x = a
        · rw [if_pos h, if_pos h.symm]
        · rw [if_neg h, if_neg (Ne.symm h)]
      | cons p r ih =>
        intro h
        rw [aget] at h
        split at h
        · cases h
        · rename_i hp
          rw [List.cons_append, aget, aget, ih h]
          by_cases h2 : p.1 = x
          · rw [if_pos h2, if_pos h2, if_neg (fun z => hp (h2.trans z))]
          · rw [if_neg h2, if_neg h2]
    exact app L e
/-- keys as data -/
structure KD (kd : α → D) (kn : α → NestedKey) : Prop where
  nk : ∀ a, Lt.nk (kd a) = some (kn a)
  inj : ∀ a b, kn a = kn b → a = b
  tup : ∀ a, ∃ ds, kd a = .tup ds
  dep : ∀ a, (kn a).depth ≤ 8
theorem KD.key {kd : α → D} {kn : α → NestedKey} (h : KD kd kn) (a : α) : NKey (kd a) (kn a) := ⟨h.tup a, h.nk a, h.dep a⟩
theorem findN_get {kd : α → D} {kn : α → NestedKey} (h : KD kd kn) (vd : β → D) (a : α) : ∀ L : List (α × β), findN (kn a) (L.map fun p => kd p.1) (L.map fun p => vd p.2) = (aget L a).map vd
  | [] => rfl
  | p :: r => by
    rw [List.map_cons, List.map_cons, findN, aget, h.nk, findN_get h vd a r]
    by_cases e : p.1 = a
    · rw [if_pos e, if_pos (by rw [e])]; rfl
    · rw [if_neg e, if_neg (fun z => e (h.inj _ _ (Option.some.inj z)))]
theorem setN_set {kd : α → D} {kn : α → NestedKey} (h : KD kd kn) (vd : β → D) (a : α) (b : β) : ∀ L : List (α × β), setN (kn a) (vd b) (L.map fun p => kd p.1) (L.map fun p => vd p.2) = (aset L a b).map fun p => vd p.2
  | [] => rfl
  | p :: r => by
    rw [List.map_cons, List.map_cons, setN, aset, h.nk, setN_set h vd a b r, List.map_cons]
    by_cases e : p.1 = a
    · rw [if_pos e, if_pos (by rw [e])]
    · rw [if_neg e, if_neg (fun z => e (h.inj _ _ (Option.some.inj z)))]
theorem putK2_put {kd : α → D} {kn : α → NestedKey} (h : KD kd kn) (vd : β → D) (L : List (α × β)) (a : α) (b : β) : putK2 (L.map fun p => kd p.1) (L.map fun p => vd p.2) (kn a) (kd a) (vd b) = ((aput L a b).map (fun p => kd p.1), (aput L a b).map fun p => vd p.2) := by
  unfold putK2 aput
  rw [findN_get h vd a L, Option.isSome_map]
  split
  · rw [setN_set h vd a b L]
    have := congrArg (List.map kd) (aset_keys a b L)
    rw [List.map_map, List.map_map] at this
    exact Prod.ext this.symm rfl
  · simp
end
/-- a list without doublets within another one is not longer -/
theorem nodup_le {α : Type} : ∀ {l m : List α}, l.Nodup → (∀ x ∈ l, x ∈ m) → l.length ≤ m.length
  | [], m, _, _ => Nat.zero_le _
  | x :: l, m, hn, h => by
    obtain ⟨a, b, rfl⟩ := List.append_of_mem (h x List.mem_cons_self)
    rw [List.nodup_cons] at hn
    have ih := nodup_le (l := l) (m := a ++ b) hn.2 fun y hy => by
      rcases List.mem_append.mp (h y (List.mem_cons_of_mem _ hy)) with z | z
      · exact List.mem_append_left _ z
      · rcases List.mem_cons.mp z with rfl | z
        · exact absurd hy hn.1
        · exact List.mem_append_right _ z
    simp at ih ⊢
    omega
/-! ### states as keys -/
def partN (p : Part) : NestedKey := .tup [.num (p.1 : Nat), .text p.2.1.st, .num p.2.2]
def staN (s : Sta) : NestedKey := .tup [.num s.1, .tup (s.2.map partN)]
theorem nk_part (p : Part) : nk (partD p) = some (partN p) := by rw [partD, nk, nks, nk, nks, nk, nks, nk, nks]; rfl
theorem nks_parts : ∀ ps : List Part, nks (ps.map partD) = some (ps.map partN)
  | [] => by rw [List.map_nil, nks]; rfl
  | p :: r => by rw [List.map_cons, nks, nk_part, nks_parts r]; rfl
theorem nk_sta (s : Sta) : nk (staD s) = some (staN s) := by rw [staD, nk, nks, nk, nks, nk, nks_parts, nks]; rfl
theorem partN_inj {p q : Part} (h : partN p = partN q) : p = q := by
  unfold partN at h
  injection h with h
  injection h with h1 h
  injection h with h2 h
  injection h with h3 _
  injection h1 with h1
  injection h2 with h2
  injection h3 with h3
  exact Prod.ext (Int.ofNat_inj.mp h1) (Prod.ext (mk_st_inj h2) h3)
theorem parts_inj : ∀ {a b : List Part}, a.map partN = b.map partN → a = b
  | [], [], _ => rfl
  | [], _ :: _, h => by simp at h
  | _ :: _, [], h => by simp at h
  | x :: a, y :: b, h => by
    rw [List.map_cons, List.map_cons] at h
    injection h with h1 h2
    rw [partN_inj h1, parts_inj h2]
theorem staN_inj {s t : Sta} (h : staN s = staN t) : s = t := by
  unfold staN at h
  injection h with h
  injection h with h1 h
  injection h with h2 _
  injection h1 with h1
  injection h2 with h2
  exact Prod.ext h1 (parts_inj h2)
theorem dep_parts : ∀ ps : List Part, NestedKey.depthAll (ps.map partN) ≤ 1
  | [] => by rw [List.map_nil, NestedKey.depthAll]; decide
  | p :: r => by
    have := dep_parts r
    rw [List.map_cons, NestedKey.depthAll, partN]
    simp only [NestedKey.depth, NestedKey.depthAll]
    omega
theorem staN_dep (s : Sta) : (staN s).depth ≤ 3 := by
  have := dep_parts s.2
  unfold staN
  simp only [NestedKey.depth, NestedKey.depthAll]
  omega
theorem kd_sta : KD staD staN := ⟨nk_sta, fun _ _ => staN_inj, fun s => ⟨_, rfl⟩, fun s => Nat.le_trans (staN_dep s) (by decide)⟩
def pairN (p : Pr) : NestedKey := .tup [staN p.1, staN p.2]
theorem kd_pair : KD pairD pairN where
  nk := fun p => by rw [pairD, nk, nks, nk_sta, nks, nk_sta, nks]; rfl
  inj := fun a b h => by
    unfold pairN at h
    injection h with h
    injection h with h1 h
    injection h with h2 _
    exact Prod.ext (staN_inj h1) (staN_inj h2)
  tup := fun p => ⟨_, rfl⟩
  dep := fun p => by
    have h1 := staN_dep p.1
    have h2 := staN_dep p.2
    unfold pairN
    simp only [NestedKey.depth, NestedKey.depthAll]
    omega
/-! ### pairs that are met behind t bits -/
def Met (l l' : List Stp) (t : Nat) (p : Pr) : Prop := ∃ v : Int, p = (fin (startOf l) (nBits v t), fin (startOf l') (nBits v t))
theorem Met.zero (l l' : List Stp) : Met l l' 0 (startOf l, startOf l') := ⟨0, rfl⟩
theorem bits_next {v : Int} {t : Nat} {b : Int} (hb : b = 0 ∨ b = 1) : ∃ u : Int, nBits u (t + 1) = nBits v t ++ [b] := by
  refine ⟨v % 2 ^ t + b * 2 ^ t, ?_⟩
  have p0 : (0 : Int) < 2 ^ t := Int.pow_pos (by decide)
  have e1 : (v % 2 ^ t + b * 2 ^ t) / 2 ^ t % 2 = b := by
    rw [Int.add_mul_ediv_right _ _ (by omega), Int.ediv_eq_zero_of_lt (Int.emod_nonneg _ (by omega)) (Int.emod_lt_of_pos _ p0)]
    omega
  have e2 : (v % 2 ^ t + b * 2 ^ t) % 2 ^ t = v % 2 ^ t := by
    rw [Int.add_mul_emod_self_right, Int.emod_emod]
  have e3 : ∀ (t : Nat) (x y : Int), x % 2 ^ t = y % 2 ^ t → nBits x t = nBits y t := fun t => by
    induction t with
    | zero => intro x y _; rfl
    | succ t ih =>
      intro x y h
      rw [nBits_snoc, nBits_snoc, ih x y (mod_of_le h (Nat.le_succ t)), bit_of h (Nat.lt_succ_self t)]
  rw [nBits_snoc, e1, e3 t _ _ e2]
theorem Met.next {l l' : List Stp} {t : Nat} {p q : Pr} {b : Int} (h : Met l l' t p) (hb : b = 0 ∨ b = 1) (e : nxtP p b = some q) : Met l l' (t + 1) q := by
  obtain ⟨v, rfl⟩ := h
  obtain ⟨u, hu⟩ := bits_next (v := v) (t := t) hb
  refine ⟨u, ?_⟩
  unfold nxtP at e
  split at e
  · cases e
    rw [hu, fin_app, fin_app]; rfl
  · cases e
def pairs {α β : Type} (a : List α) (b : List β) : List (α × β) := a.flatMap fun x => b.map fun y => (x, y)
theorem pairs_len {α β : Type} (a : List α) (b : List β) : (pairs a b).length = a.length * b.length := by
  unfold pairs
  induction a with
  | nil => simp
  | cons x a ih => rw [List.flatMap_cons, List.length_append, ih, List.length_map, List.length_cons, Nat.add_mul]; omega
theorem pairs_mem {α β : Type} {a : List α} {b : List β} {x : α} {y : β} (h1 : x ∈ a) (h2 : y ∈ b) : (x, y) ∈ pairs a b :=
  List.mem_flatMap.mpr ⟨x, h1, List.mem_map.mpr ⟨y, h2, rfl⟩⟩
theorem Met.cand {l l' : List Stp} {t : Nat} {p : Pr} (h : Met l l' t p) : p ∈ pairs (candL t l) (candL t l') := by
  obtain ⟨v, rfl⟩ := h
  exact pairs_mem (fin_cand l v t) (fin_cand l' v t)
theorem cand_pairs_len (t : Nat) (l l' : List Stp) : (pairs (candL t l) (candL t l')).length ≤ ((l.length + 1) * (l'.length + 1)) * ((l.length + 1) * (l'.length + 1)) := by
  rw [pairs_len]
  refine Nat.le_trans (Nat.mul_le_mul (candL_len t l) (candL_len t l')) ?_
  rw [Nat.mul_mul_mul_comm]
  exact Nat.le_refl _
theorem start_len (l : List Stp) : (startOf l).2.length ≤ l.length := by
  have := stA_len l 0 0 []
  rw [List.length_nil, Nat.zero_add] at this
  exact this
theorem Met.len {l l' : List Stp} {t : Nat} {p : Pr} (h : Met l l' t p) : p.1.2.length ≤ l.length ∧ p.2.2.length ≤ l'.length := by
  obtain ⟨v, rfl⟩ := h
  exact ⟨Nat.le_trans (fin_len _ _) (start_len l), Nat.le_trans (fin_len _ _) (start_len l')⟩
/-! ### counting -/
section
variable {α : Type} [DecidableEq α]
/-- the pairs' numbers, weighed -/
def W (φ : α → Nat) (L : List (α × Nat)) : Nat := (L.map fun p => p.2 * φ p.1).sum
theorem W_cons (φ : α → Nat) (p : α × Nat) (L : List (α × Nat)) : W φ (p :: L) = p.2 * φ p.1 + W φ L := by simp [W]
theorem W_app (φ : α → Nat) (L M : List (α × Nat)) : W φ (L ++ M) = W φ L + W φ M := by simp [W]
theorem W_aset (φ : α → Nat) {a : α} {n m : Nat} : ∀ {L : List (α × Nat)}, (L.map (·.1)).Nodup → aget L a = some n → W φ (aset L a (n + m)) = W φ L + m * φ a
  | [], _, h => by cases h
  | p :: r, hn, h => by
    rw [List.map_cons, List.nodup_cons] at hn
    rw [aget] at h
    rw [aset, W_cons, W_cons]
    by_cases e : p.1 = a
    · rw [if_pos e] at h ⊢
      cases h
      have er : ∀ (r : List (α × Nat)) (b : Nat), a ∉ r.map (·.1) → aset r a b = r := fun r b => by
        induction r with
        | nil => intro _; rfl
        | cons q r ih =>
          intro h
          rw [List.map_cons, List.mem_cons, not_or] at h
          rw [aset, if_neg (Ne.symm h.1), ih h.2]
      rw [er r _ (by rw [← e]; exact hn.1)]
      dsimp only
      rw [e, Nat.add_mul]; omega
    · rw [if_neg e] at h ⊢
      rw [W_aset φ hn.2 h]; omega
theorem W_aput (φ : α → Nat) {L : List (α × Nat)} (hn : (L.map (·.1)).Nodup) (a : α) (m : Nat) : W φ (aput L a ((aget L a).getD 0 + m)) = W φ L + m * φ a := by
  unfold aput
  cases e : aget L a with
  | some n => rw [if_pos (by rfl)]; exact W_aset φ hn e
  | none =>
    rw [if_neg (by decide), W_app]
    simp [W]
end
def phO (φ : Pr → Nat) : Option Pr → Nat
  | some q => φ q
  | none => 0
/-- one bit more -/
def Tn (φ : Pr → Nat) (p : Pr) : Nat := phO φ (nxtP p 0) + phO φ (nxtP p 1)
def phE (p : Pr) : Nat := if sv p.1 0 = sv p.2 0 then 1 else 0
def cnt (w : Nat) (p : Pr) : Nat := ((List.range (2 ^ w)).filter fun v : Nat => decide (sv p.1 (v : Int) = sv p.2 (v : Int))).length
theorem range_two (f : Nat → Bool) : ∀ n : Nat, ((List.range (2 * n)).filter f).length = ((List.range n).filter fun i => f (2 * i)).length + ((List.range n).filter fun i => f (2 * i + 1)).length
  | 0 => rfl
  | n + 1 => by
    have e : 2 * (n + 1) = 2 * n + 1 + 1 := by omega
    rw [e, List.range_succ, List.range_succ, List.range_succ, List.filter_append, List.filter_append, List.filter_append, List.filter_append, List.length_append, List.length_append, List.length_append, List.length_append, range_two f n]
    simp only [List.filter_cons, List.filter_nil]
    split <;> split <;> simp_all <;> omega
theorem cnt_succ (w : Nat) (p : Pr) : cnt (w + 1) p = Tn (cnt w) p := by
  unfold cnt
  have e : 2 ^ (w + 1) = 2 * 2 ^ w := by rw [Nat.pow_succ, Nat.mul_comm]
  rw [e, range_two]
  unfold Tn
  have half : ∀ b : Nat, b = 0 ∨ b = 1 → ((List.range (2 ^ w)).filter fun i => decide (sv p.1 ((2 * i + b : Nat) : Int) = sv p.2 ((2 * i + b : Nat) : Int))).length = phO (fun q => ((List.range (2 ^ w)).filter fun v : Nat => decide (sv q.1 (v : Int) = sv q.2 (v : Int))).length) (nxtP p (b : Int)) := fun b hb => by
    have b1 := rdB_bit p.1 b
    have b2 := rdB_bit p.2 b
    unfold nxtP
    by_cases z : (rdB p.1 b).1 = (rdB p.2 b).1
    · rw [if_pos z]
      show _ = ((List.range (2 ^ w)).filter fun v : Nat => decide (sv (rdB p.1 b).2 (v : Int) = sv (rdB p.2 b).2 (v : Int))).length
      congr 1
      refine List.filter_congr fun i _ => ?_
      have e1 := rdB_val p.1 b i
      have e2 := rdB_val p.2 b i
      have e3 : ((2 * i + b : Nat) : Int) = 2 * (i : Int) + (b : Int) := by omega
      rw [e3, e1, e2, z]
      exact decide_eq_decide.mpr ⟨fun h => by omega, fun h => by omega⟩
    · rw [if_neg z]
      show _ = 0
      rw [List.length_eq_zero_iff, List.filter_eq_nil_iff]
      intro i _
      have e1 := rdB_val p.1 b i
      have e2 := rdB_val p.2 b i
      have e3 : ((2 * i + b : Nat) : Int) = 2 * (i : Int) + (b : Int) := by omega
      rw [e3, e1, e2]
      simp only [decide_eq_true_eq]
      omega
  have h0 := half 0 (.inl rfl)
  have h1 := half 1 (.inr rfl)
  rw [h1]
  exact congrArg (· + _) h0
theorem cnt_zero (p : Pr) : cnt 0 p = phE p := by
  unfold cnt phE
  show ((List.range 1).filter _).length = _
  rw [show List.range 1 = [0] from rfl, List.filter_cons, List.filter_nil]
  by_cases h : sv p.1 0 = sv p.2 0
  · rw [if_pos h, if_pos (by simpa using h)]; rfl
  · rw [if_neg h, if_neg (by simpa using h)]; rfl
def Tw (φ : Pr → Nat) : Nat → Pr → Nat
  | 0 => φ
  | n + 1 => Tn (Tw φ n)
theorem Tw_cnt : ∀ (w : Nat), Tw phE w = cnt w
  | 0 => funext fun p => (cnt_zero p).symm
  | w + 1 => funext fun p => by rw [Tw, Tw_cnt w, cnt_succ]
/-- the numbers below 2 ^ w that both lead to the same one -/
def cntL (l l' : List Stp) (w : Nat) : Nat := ((List.range (2 ^ w)).filter fun v : Nat => decide (run l (v : Int) = run l' (v : Int))).length
theorem cnt_start (l l' : List Stp) (w : Nat) : cnt w (startOf l, startOf l') = cntL l l' w := by
  unfold cnt cntL
  congr 1
  refine List.filter_congr fun v _ => ?_
  rw [sv_start, sv_start]
end Lt
/-! the least number that parts two lists: what is met stays the same from some bit on; the search is right -/
namespace Lt
open PySem PySem.Spec PyProof.Rows L2
theorem pow_cast (t : Nat) : ((2 ^ t : Nat) : Int) = (2 : Int) ^ t := by simp
theorem sign_div {v : Int} {a t : Nat} (h : v.natAbs < 2 ^ a) (ht : a ≤ t) : v / 2 ^ t = if v < 0 then -1 else 0 := by
  have h2 : v.natAbs < 2 ^ t := Nat.lt_of_lt_of_le h (Nat.pow_le_pow_right (by decide) ht)
  have e := pow_cast t
  have p0 : (0 : Int) < 2 ^ t := Int.pow_pos (by decide)
  by_cases hv : v < 0
  · rw [if_pos hv]
    refine Int.ediv_eq_iff_of_pos p0 |>.mpr ⟨?_, ?_⟩
    · omega
    · omega
  · rw [if_neg hv]
    exact Int.ediv_eq_zero_of_lt (by omega) (by omega)
theorem met_stable {m : Mk} {v : Int} {a t : Nat} (h : v.natAbs < 2 ^ a) (ht : a + 1 ≤ t) : (metBy (0, m, v) (t + 1)).isSome = (metBy (0, m, v) t).isSome := by
  obtain ⟨t, rfl⟩ : ∃ u, t = u + 1 := ⟨t - 1, by omega⟩
  have e1 := sign_div h (show a ≤ t by omega)
  have e2 := sign_div h (show a ≤ t + 1 by omega)
  rw [metBy, metBy]
  dsimp only
  rw [e2, ← e1]
  cases metBy (0, m, v) t with
  | some k => rfl
  | none =>
    rw [Option.none_or]
    by_cases z : v / 2 ^ t % 2 = m.trig
    · rw [if_pos z, if_pos z]; rfl
    · rw [if_neg z, if_neg z]; rfl
theorem lft_stable {k v : Int} {a t : Nat} (h : v.natAbs < 2 ^ a) (hk : k.natAbs < 2 ^ a) (ht : a + 1 ≤ t) : (k + v % 2 ^ t) / 2 ^ t = (if k + v < 0 then -1 else 0) + if v < 0 then 1 else 0 := by
  have p0 : (0 : Int) < 2 ^ t := Int.pow_pos (by decide)
  have e1 := sign_div h (show a ≤ t by omega)
  have a1 := Int.emod_add_mul_ediv v (2 ^ t)
  have hs : (k + v).natAbs < 2 ^ (a + 1) := by
    have := Int.natAbs_add_le k v
    rw [Nat.pow_succ]; omega
  have e2 := sign_div hs ht
  rw [e1] at a1
  by_cases z : v < 0
  · rw [if_pos z] at a1 ⊢
    have : k + v % 2 ^ t = (k + v) + 2 ^ t * 1 := by omega
    rw [this, Int.add_mul_ediv_left _ _ (by omega), e2]
  · rw [if_neg z] at a1 ⊢
    have : k + v % 2 ^ t = k + v := by omega
    rw [this, e2, Int.add_zero]
theorem fltI_stable {B : Nat} : ∀ (l : List Stp) (v : Int) (a i t : Nat), (∀ s ∈ l, s.lt B) → B ≤ a → v.natAbs < 2 ^ a → a + 2 * l.length + 1 ≤ t → fltI v (t + 1) i l = fltI v t i l
  | [], _, _, _, _, _, _, _, _ => rfl
  | s :: r, v, a, i, t, hl, ha, hv, ht => by
    rw [List.length_cons] at ht
    have hs := hl s List.mem_cons_self
    have ih := fltI_stable r (s.ap v) (a + 2) (i + 1) t (fun x hx => hl x (List.mem_cons_of_mem _ hx)) (by omega) (s.ap_size hs ha hv) (by omega)
    rw [fltI, fltI, ih]
    cases s with
    | mk m =>
      have e : (met1 v (t + 1) (.mk m)).isSome = (met1 v t (.mk m)).isSome := met_stable hv (by omega)
      rw [e]; rfl
    | add k =>
      have hk : k.natAbs < 2 ^ a := Nat.lt_of_lt_of_le hs (Nat.pow_le_pow_right (by decide) ha)
      have e : lft1 v (t + 1) (.add k) = lft1 v t (.add k) := by
        rw [lft1, lft1, lft_stable hv hk (by omega), lft_stable hv hk (by omega)]
      rw [e]; rfl
theorem cand_stable {B : Nat} : ∀ (l : List Stp) (t : Nat) (sh : Int) (c i : Nat), (∀ s ∈ l, s.lt B) → B + 2 * l.length + 2 ≤ t → cand (t + 1) sh c i l = cand t sh c i l
  | [], _, _, _, _, _, _ => rfl
  | .add k :: r, t, sh, c, i, hl, ht => by
    rw [List.length_cons] at ht
    have hk : k.natAbs < 2 ^ B := hl _ List.mem_cons_self
    rw [cand, cand, sign_div hk (show B ≤ t + 1 by omega), sign_div hk (show B ≤ t by omega)]
    exact cand_stable r t _ _ _ (fun x hx => hl x (List.mem_cons_of_mem _ hx)) (by omega)
  | .mk m :: r, t, sh, c, i, hl, ht => by
    rw [List.length_cons] at ht
    have hr : ∀ s ∈ r, s.lt B := fun x hx => hl x (List.mem_cons_of_mem _ hx)
    have hw : m.wr = 0 ∨ m.wr = 1 := by cases m <;> simp [Mk.wr]
    have hv : (-m.wr).natAbs < 2 ^ (B + 1) := by
      have : 1 ≤ 2 ^ B := Nat.pow_pos (by decide)
      rw [Nat.pow_succ]; omega
    rw [cand, cand, fltI_stable r _ (B + 1) (i + 1) t hr (by omega) hv (by omega), cand_stable r t sh c (i + 1) hr (by omega)]
theorem candL_ge {B : Nat} {l : List Stp} (hl : ∀ s ∈ l, s.lt B) {T : Nat} (hT : B + 2 * l.length + 2 ≤ T) : ∀ n, candL (T + n) l = candL T l
  | 0 => rfl
  | n + 1 => by
    rw [← Nat.add_assoc, ← candL_ge hl hT n]
    exact cand_stable l (T + n) 0 0 0 hl (by omega)
/-- how many states at most -/
def cq (n : Nat) : Nat := (n + 2) * (n + 2) / 4
def addn : List Stp → Nat
  | [] => 0
  | .add _ :: r => addn r + 1
  | .mk _ :: r => addn r
def mkn : List Stp → Nat
  | [] => 0
  | .add _ :: r => mkn r
  | .mk _ :: r => mkn r + 1
theorem addn_mkn : ∀ l : List Stp, addn l + mkn l = l.length
  | [] => rfl
  | .add _ :: r => by have := addn_mkn r; rw [addn, mkn, List.length_cons]; omega
  | .mk _ :: r => by have := addn_mkn r; rw [addn, mkn, List.length_cons]; omega
theorem cand_len2 (t : Nat) : ∀ (l : List Stp) (sh : Int) (c i : Nat), (cand t sh c i l).length ≤ (mkn l + 1) * (c + addn l + 1)
  | [], sh, c, i => by rw [cand, List.length_map, List.length_range, mkn, addn]; omega
  | .add k :: r, sh, c, i => by
    have := cand_len2 t r (sh + k / 2 ^ t) (c + 1) (i + 1)
    rw [cand, mkn, addn]
    rwa [show c + 1 + addn r + 1 = c + (addn r + 1) + 1 by omega] at this
  | .mk m :: r, sh, c, i => by
    have := cand_len2 t r sh c (i + 1)
    rw [cand, List.length_append, List.length_map, List.length_range, mkn, addn, Nat.add_mul (mkn r + 1) 1, Nat.one_mul]
    omega
theorem four_mul (x y : Nat) : 4 * (x * y) ≤ (x + y) * (x + y) := by
  rcases Nat.le_total x y with h | h
  · obtain ⟨d, rfl⟩ := Nat.le.dest h
    have e : (x + (x + d)) * (x + (x + d)) = 4 * (x * (x + d)) + d * d := by
      simp only [Nat.add_mul, Nat.mul_add, Nat.mul_comm d x]; omega
    omega
  · obtain ⟨d, rfl⟩ := Nat.le.dest h
    have e : (y + d + y) * (y + d + y) = 4 * ((y + d) * y) + d * d := by
      simp only [Nat.add_mul, Nat.mul_add, Nat.mul_comm d y]; omega
    omega
theorem candL_len2 (t : Nat) (l : List Stp) : (candL t l).length ≤ cq l.length := by
  have h := cand_len2 t l 0 0 0
  rw [Nat.zero_add] at h
  have h4 := four_mul (mkn l + 1) (addn l + 1)
  have e := addn_mkn l
  rw [show mkn l + 1 + (addn l + 1) = l.length + 2 by omega] at h4
  have h5 : (candL t l).length ≤ (mkn l + 1) * (addn l + 1) := h
  unfold cq
  omega
theorem cand_pairs_len2 (t : Nat) (l l' : List Stp) : (pairs (candL t l) (candL t l')).length ≤ cq l.length * cq l'.length := by
  rw [pairs_len]
  exact Nat.mul_le_mul (candL_len2 t l) (candL_len2 t l')
theorem cq_mono {a b : Nat} (h : a ≤ b) : cq a ≤ cq b := Nat.div_le_div_right (Nat.mul_le_mul (Nat.add_le_add_right h 2) (Nat.add_le_add_right h 2))
theorem cq_pos (n : Nat) : 1 ≤ cq n := by
  have : 2 * 2 ≤ (n + 2) * (n + 2) := Nat.mul_le_mul (by omega) (by omega)
  unfold cq; omega
theorem cq_small {n : Nat} (h : cq n ≤ 3200000) : n ≤ 4000 := Classical.byContradiction fun z => by
  have : cq 4001 ≤ cq n := cq_mono (by omega)
  have e : cq 4001 = 4006002 := by decide
  omega
/-- all pairs that may be met -/
def allP (T : Nat) (l l' : List Stp) : List Pr := (List.range (T + 1)).flatMap fun t => pairs (candL t l) (candL t l')
theorem allP_len (T : Nat) (l l' : List Stp) : (allP T l l').length ≤ (T + 1) * (cq l.length * cq l'.length) := by
  unfold allP
  generalize T + 1 = n
  induction n with
  | zero => simp
  | succ n ih =>
    rw [List.range_succ, List.flatMap_append, List.length_append, Nat.add_mul, Nat.one_mul]
    refine Nat.add_le_add ih ?_
    rw [List.flatMap_cons, List.flatMap_nil, List.append_nil]
    exact cand_pairs_len2 n l l'
theorem Met.all {B : Nat} {l l' : List Stp} (hl : ∀ s ∈ l, s.lt B) (hl' : ∀ s ∈ l', s.lt B) {t : Nat} {p : Pr} (h : Met l l' t p) : p ∈ allP (B + 2 * (l.length + l'.length) + 2) l l' := by
  have hc := h.cand
  generalize hT : B + 2 * (l.length + l'.length) + 2 = T
  by_cases ht : t ≤ T
  · exact List.mem_flatMap.mpr ⟨t, List.mem_range.mpr (by omega), hc⟩
  · obtain ⟨n, rfl⟩ : ∃ n, t = T + n := ⟨t - T, by omega⟩
    rw [candL_ge hl (by omega), candL_ge hl' (by omega)] at hc
    exact List.mem_flatMap.mpr ⟨T, List.mem_range.mpr (by omega), hc⟩
/-- the least number from 0 on that parts two lists -/
def IsPart (l l' : List Stp) : Option Int → Prop
  | none => ∀ n : Int, 0 ≤ n → run l n = run l' n
  | some m => 0 ≤ m ∧ run l m ≠ run l' m ∧ ∀ n : Int, 0 ≤ n → n < m → run l n = run l' n
theorem part_ex {l l' : List Stp} : ∀ (n : Nat) (m : Int), 0 ≤ m → m.toNat ≤ n → run l m ≠ run l' m → ∃ m', m' ≤ m ∧ IsPart l l' (some m')
  | 0, m, h0, hn, h => ⟨m, Int.le_refl _, h0, h, fun x hx hm => by omega⟩
  | n + 1, m, h0, hn, h => by
    by_cases z : ∃ x : Int, 0 ≤ x ∧ x < m ∧ run l x ≠ run l' x
    · obtain ⟨x, x0, xm, hx⟩ := z
      obtain ⟨m', h1, h2⟩ := part_ex n x x0 (by omega) hx
      exact ⟨m', by omega, h2⟩
    · exact ⟨m, Int.le_refl _, h0, h, fun x hx hm => Classical.byContradiction fun q => z ⟨x, hx, hm, q⟩⟩
structure Rch (l l' : List Stp) (t : Nat) (v : Int) (p : Pr) : Prop where
  v0 : 0 ≤ v
  v1 : v < 2 ^ t
  ex : ∃ o : Int, ∀ h, run l (v + 2 ^ t * h) = 2 ^ t * sv p.1 h + o ∧ run l' (v + 2 ^ t * h) = 2 ^ t * sv p.2 h + o
  met : Met l l' t p
theorem Rch.zero (l l' : List Stp) : Rch l l' 0 0 (startOf l, startOf l') :=
  ⟨Int.le_refl _, by decide, ⟨0, fun h => by
    rw [Int.pow_zero, Int.one_mul, Int.one_mul, Int.one_mul, Int.zero_add, Int.add_zero, Int.add_zero, sv_start, sv_start]
    exact ⟨rfl, rfl⟩⟩, Met.zero l l'⟩
section
variable {l l' : List Stp} {t : Nat} {v : Int} {p : Pr}
/-- it parts at h exactly if the pair does -/
theorem Rch.iff (r : Rch l l' t v p) (h : Int) : run l (v + 2 ^ t * h) = run l' (v + 2 ^ t * h) ↔ sv p.1 h = sv p.2 h := by
  obtain ⟨o, ho⟩ := r.ex
  have p0 : (2 : Int) ^ t ≠ 0 := Int.ne_of_gt (Int.pow_pos (by decide))
  rw [(ho h).1, (ho h).2]
  constructor
  · intro e
    have e : 2 ^ t * sv p.1 h = 2 ^ t * sv p.2 h := by omega
    exact Int.eq_of_mul_eq_mul_left p0 e
  · intro e; rw [e]
theorem Rch.iff0 (r : Rch l l' t v p) : run l v = run l' v ↔ sv p.1 0 = sv p.2 0 := by
  have := r.iff 0
  rw [Int.mul_zero, Int.add_zero] at this
  exact this
theorem two_step (v b h : Int) (t : Nat) : v + b * 2 ^ t + 2 ^ (t + 1) * h = v + 2 ^ t * (2 * h + b) := by
  rw [Int.pow_succ, Int.mul_add, Int.mul_assoc, Int.mul_comm b]
  omega
theorem Rch.next (r : Rch l l' t v p) {b : Int} (hb : b = 0 ∨ b = 1) {q : Pr} (e : nxtP p b = some q) : Rch l l' (t + 1) (v + b * 2 ^ t) q := by
  have hm := r.met.next hb e
  obtain ⟨o, ho⟩ := r.ex
  have h0 := r.v0
  have h1 := r.v1
  have p0 : (0 : Int) < 2 ^ t := Int.pow_pos (by decide)
  unfold nxtP at e
  split at e
  · rename_i z
    cases e
    refine ⟨?_, ?_, ⟨2 ^ t * (rdB p.1 b).1 + o, fun h => ?_⟩, hm⟩
    · rcases hb with rfl | rfl <;> omega
    · rw [Int.pow_succ]; rcases hb with rfl | rfl <;> omega
    · have e1 := rdB_val p.1 b h
      have e2 := rdB_val p.2 b h
      rw [two_step, (ho _).1, (ho _).2]
      have e1 : sv p.1 (2 * h + b) = 2 * sv (rdB p.1 b).2 h + (rdB p.1 b).1 := e1
      have e2 : sv p.2 (2 * h + b) = 2 * sv (rdB p.2 b).2 h + (rdB p.2 b).1 := e2
      rw [e1, e2, z]
      have a : ∀ x y : Int, 2 ^ t * (2 * x + y) + o = 2 ^ (t + 1) * x + (2 ^ t * y + o) := fun x y => by
        rw [Int.pow_succ, Int.mul_add, Int.mul_assoc]; omega
      exact ⟨a _ _, a _ _⟩
  · cases e
theorem Rch.none (r : Rch l l' t v p) {b : Int} (hb : b = 0 ∨ b = 1) (e : nxtP p b = none) : run l (v + b * 2 ^ t) ≠ run l' (v + b * 2 ^ t) := by
  intro h
  have e2 := (r.iff b).mp (by rw [Int.mul_comm]; exact h)
  have v1 := rdB_val p.1 b 0
  have v2 := rdB_val p.2 b 0
  have b1 := rdB_bit p.1 b
  have b2 := rdB_bit p.2 b
  unfold nxtP at e
  split at e
  · cases e
  · rename_i z
    rw [Int.mul_zero, Int.zero_add] at v1 v2
    omega
end
/-- what holds ahead of a turn: level, seen, least -/
structure PInv (l l' : List Stp) (t : Nat) (L : List (Pr × Int)) (S : List Pr) (ls : Option Int) : Prop where
  nd : (L.map (·.1)).Nodup
  rc : ∀ p v, (p, v) ∈ L → Rch l l' t v p
  sn : ∀ p, p ∈ S → ∃ s v, s < t ∧ Rch l l' s v p
  snd : S.Nodup
  dis : ∀ p ∈ L.map (·.1), p ∉ S
  lsx : ∀ x, ls = some x → 0 ≤ x ∧ x < 2 ^ t ∧ run l x ≠ run l' x
  tr : ∀ m, IsPart l l' (some m) → ls = some m ∨ (2 ^ t ≤ 2 * m + 1 ∧ ∃ p, (p, m % 2 ^ t) ∈ L)
theorem PInv.zero (l l' : List Stp) : PInv l l' 0 [((startOf l, startOf l'), 0)] [] none where
  nd := by simp
  rc := fun p v h => by
    rw [List.mem_singleton] at h
    cases h
    exact Rch.zero l l'
  sn := fun p h => by cases h
  snd := List.nodup_nil
  dis := fun p _ h => by cases h
  lsx := fun x h => by cases h
  tr := fun m h => .inr ⟨by have := h.1; rw [Int.pow_zero]; omega, _, by rw [Int.pow_zero, Int.emod_one]; exact List.mem_singleton_self _⟩
/-- what is found ahead of a turn -/
def foundOf (L : List (Pr × Int)) (ls : Option Int) : List Int := ((L.filter fun p => decide (sv p.1.1 0 ≠ sv p.1.2 0)).map (·.2)) ++ ls.toList
section
variable {l l' : List Stp} {t : Nat} {L : List (Pr × Int)} {S : List Pr} {ls : Option Int}
theorem PInv.found (I : PInv l l' t L S ls) {x : Int} (h : x ∈ foundOf L ls) : 0 ≤ x ∧ x < 2 ^ t ∧ run l x ≠ run l' x := by
  rcases List.mem_append.mp h with h | h
  · obtain ⟨⟨p, v⟩, hp, rfl⟩ := List.mem_map.mp h
    rw [List.mem_filter] at hp
    have r := I.rc p v hp.1
    exact ⟨r.v0, r.v1, fun e => (of_decide_eq_true hp.2) (r.iff0.mp e)⟩
  · exact I.lsx x (by simpa using h)
theorem PInv.ret (I : PInv l l' t L S ls) {x : Int} (h : x ∈ foundOf L ls) (hm : ∀ y ∈ foundOf L ls, x ≤ y) : IsPart l l' (some x) := by
  obtain ⟨x0, x1, x2⟩ := I.found h
  obtain ⟨m, hmx, im⟩ := part_ex x.toNat x x0 (Nat.le_refl _) x2
  have : m ∈ foundOf L ls := by
    rcases I.tr m im with e | ⟨_, p, hp⟩
    · exact List.mem_append_right _ (by rw [e]; simp)
    · have r := I.rc _ _ hp
      have e : m % 2 ^ t = m := Int.emod_eq_of_lt im.1 (by omega)
      rw [e] at r hp
      exact List.mem_append_left _ (List.mem_map.mpr ⟨(p, m), List.mem_filter.mpr ⟨hp, decide_eq_true fun z => im.2.1 (r.iff0.mpr z)⟩, rfl⟩)
  have := hm m this
  rw [show x = m by omega]
  exact im
theorem PInv.done (I : PInv l l' t [] S ls) : IsPart l l' ls := by
  cases ls with
  | none =>
    intro n hn
    refine Classical.byContradiction fun z => ?_
    obtain ⟨m, _, im⟩ := part_ex n.toNat n hn (Nat.le_refl _) z
    rcases I.tr m im with e | ⟨_, p, hp⟩
    · cases e
    · cases hp
  | some x =>
    obtain ⟨x0, x1, x2⟩ := I.lsx x rfl
    obtain ⟨m, _, im⟩ := part_ex x.toNat x x0 (Nat.le_refl _) x2
    rcases I.tr m im with e | ⟨_, p, hp⟩
    · rw [e]; exact im
    · cases hp
end
/-- the least one so far -/
def lsPut (ls : Option Int) (x : Int) : Option Int := match ls with
  | none => some x
  | some y => some (if x < y then x else y)
def lvPut (L : List (Pr × Int)) (q : Pr) (x : Int) : List (Pr × Int) := aput L q (if (aget L q).getD x < x then (aget L q).getD x else x)
/-- one following pair -/
def turnP (S : List Pr) (x : Int) (f : Option Pr) (a : List (Pr × Int) × Option Int) : List (Pr × Int) × Option Int := match f with
  | none => (a.1, lsPut a.2 x)
  | some q => if q ∉ S ∧ stepsOf q.1 ≠ stepsOf q.2 then (lvPut a.1 q x, a.2) else a
/-- what is covered -/
def Cov (S : List Pr) (x : Int) (f : Option Pr) (a : List (Pr × Int) × Option Int) : Prop := match f with
  | none => ∃ y, a.2 = some y ∧ y ≤ x
  | some q => q ∉ S → stepsOf q.1 ≠ stepsOf q.2 → ∃ y, aget a.1 q = some y ∧ y ≤ x
theorem lvPut_get (L : List (Pr × Int)) (q : Pr) (x : Int) (r : Pr) : aget (lvPut L q x) r = if r = q then some (if (aget L q).getD x < x then (aget L q).getD x else x) else aget L r := aput_get ..
theorem Cov.self (S : List Pr) (x : Int) (f : Option Pr) (a : List (Pr × Int) × Option Int) : Cov S x f (turnP S x f a) := by
  cases f with
  | none =>
    show ∃ y, lsPut a.2 x = some y ∧ y ≤ x
    cases a.2 with
    | none => exact ⟨x, rfl, Int.le_refl _⟩
    | some y => exact ⟨_, rfl, by split <;> omega⟩
  | some q =>
    intro h1 h2
    show ∃ y, aget (if q ∉ S ∧ stepsOf q.1 ≠ stepsOf q.2 then (lvPut a.1 q x, a.2) else a).1 q = some y ∧ y ≤ x
    rw [if_pos ⟨h1, h2⟩, lvPut_get, if_pos rfl]
    exact ⟨_, rfl, by split <;> omega⟩
theorem Cov.keep {S : List Pr} {x : Int} {f : Option Pr} {a : List (Pr × Int) × Option Int} (h : Cov S x f a) (x2 : Int) (f2 : Option Pr) : Cov S x f (turnP S x2 f2 a) := by
  cases f with
  | none =>
    obtain ⟨y, e, hy⟩ := h
    cases f2 with
    | none =>
      show ∃ y, lsPut a.2 x2 = some y ∧ y ≤ x
      rw [e]
      exact ⟨_, rfl, by split <;> omega⟩
    | some q2 =>
      show ∃ y, (if q2 ∉ S ∧ stepsOf q2.1 ≠ stepsOf q2.2 then (lvPut a.1 q2 x2, a.2) else a).2 = some y ∧ y ≤ x
      split
      · exact ⟨y, e, hy⟩
      · exact ⟨y, e, hy⟩
  | some q =>
    intro h1 h2
    obtain ⟨y, e, hy⟩ := h h1 h2
    cases f2 with
    | none => exact ⟨y, e, hy⟩
    | some q2 =>
      show ∃ y, aget (if q2 ∉ S ∧ stepsOf q2.1 ≠ stepsOf q2.2 then (lvPut a.1 q2 x2, a.2) else a).1 q = some y ∧ y ≤ x
      split
      · rw [lvPut_get]
        by_cases z : q = q2
        · subst z
          rw [if_pos rfl, e]
          refine ⟨_, rfl, ?_⟩
          rw [Option.getD_some]
          split <;> omega
        · rw [if_neg z]; exact ⟨y, e, hy⟩
      · exact ⟨y, e, hy⟩
/-- what holds within a turn -/
structure PMid (l l' : List Stp) (t : Nat) (S : List Pr) (a : List (Pr × Int) × Option Int) : Prop where
  nd : (a.1.map (·.1)).Nodup
  rc : ∀ p v, (p, v) ∈ a.1 → Rch l l' (t + 1) v p
  dis : ∀ p ∈ a.1.map (·.1), p ∉ S
  lsx : ∀ x, a.2 = some x → 0 ≤ x ∧ x < 2 ^ (t + 1) ∧ run l x ≠ run l' x
theorem PMid.start (l l' : List Stp) (t : Nat) (S : List Pr) : PMid l l' t S ([], none) :=
  ⟨by simp, fun p v h => (by cases h), fun p h => (by cases h), fun x h => (by cases h)⟩
theorem PMid.step {l l' : List Stp} {t : Nat} {S : List Pr} {a : List (Pr × Int) × Option Int} (I : PMid l l' t S a) {v : Int} {p : Pr} (r : Rch l l' t v p) {b : Int} (hb : b = 0 ∨ b = 1) : PMid l l' t S (turnP S (v + b * 2 ^ t) (nxtP p b) a) := by
  cases e : nxtP p b with
  | none =>
    refine ⟨I.nd, I.rc, I.dis, fun x hx => ?_⟩
    have hx : lsPut a.2 (v + b * 2 ^ t) = some x := hx
    have new : 0 ≤ v + b * 2 ^ t ∧ v + b * 2 ^ t < 2 ^ (t + 1) ∧ run l (v + b * 2 ^ t) ≠ run l' (v + b * 2 ^ t) := by
      have h0 := r.v0
      have h1 := r.v1
      have p0 : (0 : Int) < 2 ^ t := Int.pow_pos (by decide)
      refine ⟨?_, ?_, r.none hb e⟩
      · rcases hb with rfl | rfl <;> omega
      · rw [Int.pow_succ]; rcases hb with rfl | rfl <;> omega
    cases e2 : a.2 with
    | none => rw [e2] at hx; cases hx; exact new
    | some y =>
      rw [e2] at hx
      cases hx
      split
      · exact new
      · exact I.lsx y e2
  | some q =>
    show PMid l l' t S (if q ∉ S ∧ stepsOf q.1 ≠ stepsOf q.2 then (lvPut a.1 q (v + b * 2 ^ t), a.2) else a)
    split
    · rename_i hq
      have rq := r.next hb e
      refine ⟨aput_nodup I.nd _ _, fun p' v' h => ?_, fun p' h => ?_, I.lsx⟩
      · have hg := aget_of_mem (aput_nodup I.nd _ _) h
        have hg : aget (lvPut a.1 q (v + b * 2 ^ t)) p' = some v' := hg
        rw [lvPut_get] at hg
        by_cases z : p' = q
        · subst z
          rw [if_pos rfl] at hg
          cases hg
          split
          · cases e3 : aget a.1 p' with
            | none => exact rq
            | some y => exact I.rc _ _ (aget_mem e3)
          · exact rq
        · rw [if_neg z] at hg
          exact I.rc _ _ (aget_mem hg)
      · rcases aput_mem.mp h with h | rfl
        · exact I.dis _ h
        · exact hq.1
    · exact I
theorem PMid.end_ {l l' : List Stp} {t : Nat} {L : List (Pr × Int)} {S : List Pr} (I : PInv l l' t L S none) (h0 : ∀ p v, (p, v) ∈ L → sv p.1 0 = sv p.2 0) {a : List (Pr × Int) × Option Int}
    (J : PMid l l' t (S ++ L.map (·.1)) a) (cov : ∀ p v, (p, v) ∈ L → ∀ b : Int, (b = 0 ∨ b = 1) → Cov (S ++ L.map (·.1)) (v + b * 2 ^ t) (nxtP p b) a) : PInv l l' (t + 1) a.1 (S ++ L.map (·.1)) a.2 where
  nd := J.nd
  rc := J.rc
  sn := fun p h => by
    rcases List.mem_append.mp h with h | h
    · obtain ⟨s, v, hs, r⟩ := I.sn p h
      exact ⟨s, v, by omega, r⟩
    · obtain ⟨⟨p', v⟩, hp, rfl⟩ := List.mem_map.mp h
      exact ⟨t, v, by omega, I.rc p' v hp⟩
  snd := List.nodup_append.mpr ⟨I.snd, I.nd, fun x hx y hy e => I.dis y hy (e ▸ hx)⟩
  dis := J.dis
  lsx := J.lsx
  tr := fun m im => by
    rcases I.tr m im with e | ⟨_, p, hp⟩
    · cases e
    have p0 : (0 : Int) < 2 ^ t := Int.pow_pos (by decide)
    have ps : (2 : Int) ^ (t + 1) = 2 ^ t * 2 := Int.pow_succ ..
    have r := I.rc _ _ hp
    have hz := h0 _ _ hp
    have m0 := im.1
    have big : 2 ^ t ≤ m := by
      refine Classical.byContradiction fun z => ?_
      have e : m % 2 ^ t = m := Int.emod_eq_of_lt m0 (by omega)
      rw [e] at r
      exact im.2.1 (r.iff0.mpr hz)
    have hb : m / 2 ^ t % 2 = 0 ∨ m / 2 ^ t % 2 = 1 := by omega
    have key : m % 2 ^ t + m / 2 ^ t % 2 * 2 ^ t = m % 2 ^ (t + 1) := by
      have a1 := Int.emod_add_mul_ediv m (2 ^ (t + 1))
      have a2 := Int.emod_add_mul_ediv m (2 ^ t)
      have a3 := Int.emod_add_mul_ediv (m / 2 ^ t) 2
      have a4 : m / 2 ^ (t + 1) = m / 2 ^ t / 2 := ediv_pow_succ' m t
      have a5 : (2 : Int) ^ (t + 1) * (m / 2 ^ t / 2) = 2 ^ t * (2 * (m / 2 ^ t / 2)) := by rw [Int.pow_succ, Int.mul_assoc]
      have a6 : (2 : Int) ^ t * (m / 2 ^ t) = 2 ^ t * (m / 2 ^ t % 2) + 2 ^ t * (2 * (m / 2 ^ t / 2)) := by rw [← Int.mul_add, a3]
      rw [a4, a5] at a1
      rw [Int.mul_comm (m / 2 ^ t % 2)]
      omega
    have hc := cov p _ hp _ hb
    rw [key] at hc
    have a1 := Int.emod_add_mul_ediv m (2 ^ (t + 1))
    have am : m % 2 ^ (t + 1) ≤ m := by
      have : 0 ≤ 2 ^ (t + 1) * (m / 2 ^ (t + 1)) := Int.mul_nonneg (by omega) (Int.ediv_nonneg m0 (by omega))
      omega
    cases e : nxtP p (m / 2 ^ t % 2) with
    | none =>
      rw [e] at hc
      obtain ⟨x, ex, hx⟩ := hc
      obtain ⟨x0, _, x2⟩ := J.lsx x ex
      have : m ≤ x := Classical.byContradiction fun z => x2 (im.2.2 x x0 (by omega))
      left
      rw [ex, show x = m by omega]
    | some q =>
      rw [e] at hc
      right
      have rq := r.next hb e
      rw [key] at rq
      generalize eh : m / 2 ^ (t + 1) = h at a1
      have h0 : 0 ≤ h := by rw [← eh]; exact Int.ediv_nonneg m0 (by omega)
      have diff : sv q.1 h ≠ sv q.2 h := fun z => im.2.1 (by
        have := (rq.iff h).mpr z
        rw [a1] at this
        exact this)
      have nS : q ∉ S ++ L.map (·.1) := fun z => by
        obtain ⟨s, v', hs, r'⟩ : ∃ s v', s ≤ t ∧ Rch l l' s v' q := by
          rcases List.mem_append.mp z with z | z
          · obtain ⟨s, v', hs, r'⟩ := I.sn q z
            exact ⟨s, v', by omega, r'⟩
          · obtain ⟨⟨p', v'⟩, hp', rfl⟩ := List.mem_map.mp z
            exact ⟨t, v', Nat.le_refl _, I.rc p' v' hp'⟩
        have n1 : run l (v' + 2 ^ s * h) ≠ run l' (v' + 2 ^ s * h) := fun z => diff ((r'.iff h).mp z)
        have s0 : (0 : Int) < 2 ^ s := Int.pow_pos (by decide)
        have v0 := r'.v0
        have v1 := r'.v1
        have n0 : 0 ≤ 2 ^ s * h := Int.mul_nonneg (by omega) h0
        have st : (2 : Int) ^ s ≤ 2 ^ t := by
          rw [← pow_cast, ← pow_cast]
          exact Int.ofNat_le.mpr (Nat.pow_le_pow_right (by decide) hs)
        refine n1 (im.2.2 _ (by omega) ?_)
        have c1 : 2 ^ s * h ≤ 2 ^ t * h := Int.mul_le_mul_of_nonneg_right st h0
        rw [ps, Int.mul_assoc] at a1
        by_cases hz : h = 0
        · subst hz; rw [Int.mul_zero] at c1 n0 ⊢; omega
        · have c2 : (2 : Int) ^ t * (h + 1) ≤ 2 ^ t * (2 * h) := Int.mul_le_mul_of_nonneg_left (by omega) (by omega)
          rw [Int.mul_add, Int.mul_one] at c2
          have c3 := Int.emod_nonneg m (show (2 : Int) ^ t * 2 ≠ 0 by omega)
          omega
      have nE : stepsOf q.1 ≠ stepsOf q.2 := fun z => diff (by rw [← run_stepsOf, ← run_stepsOf, z])
      obtain ⟨x, ex, hx⟩ := hc nS nE
      have hxm := aget_mem ex
      have rx := J.rc _ _ hxm
      have x0 := rx.v0
      have xd : run l (x + 2 ^ (t + 1) * h) ≠ run l' (x + 2 ^ (t + 1) * h) := fun z => diff ((rx.iff h).mp z)
      have n0 : 0 ≤ 2 ^ (t + 1) * h := Int.mul_nonneg (by omega) h0
      have ge : m ≤ x + 2 ^ (t + 1) * h := Classical.byContradiction fun z => xd (im.2.2 _ (by omega) (by omega))
      refine ⟨by omega, q, ?_⟩
      rw [show m % 2 ^ (t + 1) = x by omega]
      exact hxm
/-- how many pairs are met at most -/
theorem PInv.room {B : Nat} {l l' : List Stp} (hl : ∀ s ∈ l, s.lt B) (hl' : ∀ s ∈ l', s.lt B) {t : Nat} {L : List (Pr × Int)} {S : List Pr} {ls : Option Int} (I : PInv l l' t L S ls) : S.length + L.length ≤ (allP (B + 2 * (l.length + l'.length) + 2) l l').length := by
  have nd : (S ++ L.map (·.1)).Nodup := List.nodup_append.mpr ⟨I.snd, I.nd, fun x hx y hy e => I.dis y hy (e ▸ hx)⟩
  have := nodup_le nd (m := allP (B + 2 * (l.length + l'.length) + 2) l l') fun p hp => by
    rcases List.mem_append.mp hp with h | h
    · obtain ⟨s, v, _, r⟩ := I.sn p h
      exact r.met.all hl hl'
    · obtain ⟨⟨p', v⟩, hp', rfl⟩ := List.mem_map.mp h
      exact (I.rc p' v hp').met.all hl hl'
  rw [List.length_append, List.length_map] at this
  exact this
abbrev seenK (S : List Pr) : List D := S.map pairD
abbrev seenV (S : List Pr) : List D := S.map fun _ => D.bl true
theorem seen_find (q : Pr) : ∀ S : List Pr, findN (pairN q) (seenK S) (seenV S) = if q ∈ S then some (.bl true) else none
  | [] => rfl
  | p :: S => by
    have ih := seen_find q S
    show (if nk (pairD p) = some (pairN q) then some (D.bl true) else findN (pairN q) (seenK S) (seenV S)) = _
    rw [ih, kd_pair.nk]
    by_cases e : q = p
    · subst e
      rw [if_pos rfl, if_pos List.mem_cons_self]
    · rw [if_neg (fun z => e (kd_pair.inj _ _ (Option.some.inj z)).symm)]
      by_cases h : q ∈ S
      · rw [if_pos h, if_pos (List.mem_cons_of_mem _ h)]
      · rw [if_neg h, if_neg (fun z => (List.mem_cons.mp z).elim e h)]
theorem seen_put {S : List Pr} {q : Pr} (h : q ∉ S) : putK2 (seenK S) (seenV S) (pairN q) (pairD q) (.bl true) = (seenK (S ++ [q]), seenV (S ++ [q])) := by
  unfold putK2
  rw [seen_find, if_neg h, if_neg (by decide)]
  unfold seenK seenV
  rw [List.map_append, List.map_append]; rfl
abbrev plK (L : List (Pr × Int)) : List D := L.map fun p => pairD p.1
abbrev plV (L : List (Pr × Int)) : List D := L.map fun p => D.int p.2
def optI : Option Int → D
  | none => .non
  | some m => .int m
theorem int_pds (M : Mp) : ∀ L : List Int, pds M (L.map D.int) = some (L.map PyData.int)
  | [] => by rw [List.map_nil, pds]; rfl
  | i :: L => by rw [List.map_cons, pds, pd, int_pds M L]; rfl
theorem int_can : ∀ L : List Int, PyData.canLayAll0 (L.map PyData.int) = true ∧ PyData.depthAll (L.map PyData.int) = 0
  | [] => ⟨by simp [PyData.canLayAll0], by simp [PyData.depthAll]⟩
  | i :: L => by
    obtain ⟨h1, h2⟩ := int_can L
    refine ⟨?_, ?_⟩
    · rw [List.map_cons, PyData.canLayAll0, h1]; simp [PyData.canLay0]
    · rw [List.map_cons, PyData.depthAll, h2]; simp [PyData.depth]
theorem int_shaped (L : List Int) : SeqAt.shaped (.list (L.map PyData.int)) = true := by
  obtain ⟨h1, h2⟩ := int_can L
  unfold SeqAt.shaped
  rw [PyData.canLay0, PyData.depth, h1, h2, Bool.true_and]
  exact decide_eq_true (by omega)
theorem int_nil (L : List Int) : PyData.eqv (.list (L.map PyData.int)) (.list []) = L.isEmpty := by
  cases L with
  | nil => rfl
  | cons p ps => rfl
theorem int_pdT {M : Mp} {a : PySem.Addr} {L : List Int} (h : M a = some (.lst (L.map D.int))) : pdT M (.ref a) = some (.list (L.map PyData.int)) := by
  unfold pdT
  dsimp only
  rw [h]
  dsimp only
  rw [int_pds]; rfl
theorem mrm_sw {M : Mp} {a b : PySem.Addr} {x y : MO} (h : a ≠ b) (ha : M a = none) : mrm (mup (mup M a x) b y) a = mup M b y := by
  funext z
  unfold mrm mup
  by_cases e : z = a
  · subst e; rw [if_pos rfl, if_neg h, ha]
  · rw [if_neg e]
    by_cases e2 : z = b
    · rw [if_pos e2, if_pos e2]
    · rw [if_neg e2, if_neg e2, if_neg e]
theorem prod_le {a b c : Nat} (h : (a + 1) * (b + 1) ≤ c) : a < c ∧ b < c :=
  ⟨Nat.lt_of_lt_of_le (Nat.lt_succ_self a) (Nat.le_trans (Nat.le_mul_of_pos_right _ (Nat.succ_pos b)) h), Nat.lt_of_lt_of_le (Nat.lt_succ_self b) (Nat.le_trans (Nat.le_mul_of_pos_left _ (Nat.succ_pos a)) h)⟩
/-- small enough for the search -/
structure PcOk (B : Nat) (l l' : List Stp) : Prop where
  h1 : ∀ s ∈ l, s.lt B
  h2 : ∀ s ∈ l', s.lt B
  hz : (B + 2 * (l.length + l'.length) + 5) * (cq l.length * cq l'.length) ≤ 16000000
theorem cq_bound {B : Nat} {a b : Nat} (hz : (B + 2 * (a + b) + 5) * (cq a * cq b) ≤ 16000000) : cq a * cq b ≤ 3200000 ∧ a ≤ 4000 ∧ b ≤ 4000 := by
  have h2 := Nat.mul_le_mul_right (cq a * cq b) (show 5 ≤ B + 2 * (a + b) + 5 by omega)
  have h3 : cq a * cq b ≤ 3200000 := by omega
  refine ⟨h3, cq_small (Nat.le_trans (Nat.le_mul_of_pos_right _ (cq_pos b)) h3), cq_small (Nat.le_trans (Nat.le_mul_of_pos_left _ (cq_pos a)) h3)⟩
theorem PcOk.len {B : Nat} {l l' : List Stp} (h : PcOk B l l') : l.length ≤ 4000 ∧ l'.length ≤ 4000 := (cq_bound h.hz).2
theorem PcOk.of {B : Nat} {l l' : List Stp} (h1 : ∀ s ∈ l, s.lt B) (h2 : ∀ s ∈ l', s.lt B) {a b : Nat} (ha : l.length ≤ a) (hb : l'.length ≤ b) (hz : (B + 2 * (a + b) + 5) * (cq a * cq b) ≤ 16000000) : PcOk B l l' := by
  refine ⟨h1, h2, Nat.le_trans ?_ hz⟩
  exact Nat.mul_le_mul (by omega) (Nat.mul_le_mul (cq_mono ha) (cq_mono hb))
theorem PcOk.swap {B : Nat} {l l' : List Stp} (h : PcOk B l l') : PcOk B l' l := by
  refine ⟨h.h2, h.h1, ?_⟩
  rw [Nat.mul_comm (cq l'.length), Nat.add_comm l'.length l.length]
  exact h.hz
def Same (l l' : List Stp) : Prop := ∀ n : Int, run l n = run l' n
theorem Same.symm {l l' : List Stp} (h : Same l l') : Same l' l := fun n => (h n).symm
theorem Same.trans {l l' l2 : List Stp} (h : Same l l') (h2 : Same l' l2) : Same l l2 := fun n => (h n).trans (h2 n)
theorem eq_of_mods {x y : Int} (h : ∀ k : Nat, x % 2 ^ k = y % 2 ^ k) : x = y := by
  obtain ⟨k, hk⟩ : ∃ k : Nat, (x - y).natAbs < 2 ^ k := ⟨_, Nat.lt_two_pow_self⟩
  have d : ((2 ^ k : Nat) : Int) ∣ x - y := by
    rw [pow_cast]
    exact Int.dvd_of_emod_eq_zero (by rw [Int.sub_emod, h k, Int.sub_self, Int.zero_emod])
  have := Int.eq_zero_of_dvd_of_natAbs_lt_natAbs d (by simpa using hk)
  omega
theorem same_of_nat {l l' : List Stp} (h : ∀ n : Int, 0 ≤ n → run l n = run l' n) : Same l l' := fun n => eq_of_mods fun k => by
  have p0 : (0 : Int) < 2 ^ k := Int.pow_pos (by decide)
  have e : (n % 2 ^ k) % 2 ^ k = n % 2 ^ k := Int.emod_emod ..
  rw [run_congr l e.symm, run_congr l' e.symm, h _ (Int.emod_nonneg _ (by omega))]
theorem IsPart.none_iff {l l' : List Stp} {o : Option Int} (h : IsPart l l' o) : o = none ↔ Same l l' := by
  cases o with
  | none => exact ⟨fun _ => same_of_nat h, fun _ => rfl⟩
  | some m => exact ⟨fun z => (by cases z), fun z => absurd (z m) h.2.1⟩
theorem IsPart.of_none {l l' : List Stp} {o : Option Int} (h : IsPart l l' o) (s : Same l l') : o = none := h.none_iff.mpr s
theorem IsPart.uniq {l l' : List Stp} {a b : Int} (h : IsPart l l' (some a)) (h' : IsPart l l' (some b)) : a = b := by
  have h1 : ¬ a < b := fun z => h.2.1 (h'.2.2 a h.1 z)
  have h2 : ¬ b < a := fun z => h'.2.1 (h.2.2 b h'.1 z)
  omega
theorem IsPart.swap {l l' : List Stp} {o : Option Int} (h : IsPart l l' o) : IsPart l' l o := by
  cases o with
  | none => exact fun n hn => (h n hn).symm
  | some m => exact ⟨h.1, fun e => h.2.1 e.symm, fun n h1 h2 => (h.2.2 n h1 h2).symm⟩
/-- the greatest number below 0 that parts two lists -/
def IsBelow (l l' : List Stp) : Option Int → Prop
  | none => ∀ n : Int, n < 0 → run l n = run l' n
  | some m => m < 0 ∧ run l m ≠ run l' m ∧ ∀ n : Int, m < n → n < 0 → run l n = run l' n
def belowI : Option Int → Option Int
  | none => none
  | some m => some (-1 - m)
theorem exd_iff (l l' : List Stp) (n : Int) : run (exd l) n = run (exd l') n ↔ run l (-1 - n) = run l' (-1 - n) := by
  have e1 := run_exd l (-1 - n)
  have e2 := run_exd l' (-1 - n)
  rw [show -1 - (-1 - n) = n by omega] at e1 e2
  rw [e1, e2]; omega
theorem IsPart.below {l l' : List Stp} {o : Option Int} (h : IsPart (exd l) (exd l') o) : IsBelow l l' (belowI o) := by
  cases o with
  | none =>
    intro n hn
    have := (exd_iff l l' (-1 - n)).mp (h _ (by omega))
    rwa [show -1 - (-1 - n) = n by omega] at this
  | some m =>
    obtain ⟨h0, h1, h2⟩ := h
    refine ⟨by omega, fun e => h1 ((exd_iff l l' m).mpr e), fun n a b => ?_⟩
    have := (exd_iff l l' (-1 - n)).mp (h2 _ (by omega) (by omega))
    rwa [show -1 - (-1 - n) = n by omega] at this
theorem IsBelow.none_iff {l l' : List Stp} {o : Option Int} (h : IsBelow l l' o) : o = none ↔ Same l l' := by
  cases o with
  | none =>
    refine ⟨fun _ => ?_, fun _ => rfl⟩
    have : Same (exd l) (exd l') := same_of_nat fun n hn => (exd_iff l l' n).mpr (h _ (by omega))
    intro n
    have := (exd_iff l l' (-1 - n)).mp (this _)
    rwa [show -1 - (-1 - n) = n by omega] at this
  | some m => exact ⟨fun z => (by cases z), fun z => absurd (z m) h.2.1⟩
theorem IsBelow.uniq {l l' : List Stp} {a b : Int} (h : IsBelow l l' (some a)) (h' : IsBelow l l' (some b)) : a = b := by
  have h1 : ¬ a < b := fun z => h'.2.1 (h.2.2 b z h'.1)
  have h2 : ¬ b < a := fun z => h.2.1 (h'.2.2 a z h.1)
  omega
theorem PcOk.exd {B : Nat} {l l' : List Stp} (h : PcOk B l l') : PcOk B (exd l) (exd l') :=
  ⟨exd_lt h.h1, exd_lt h.h2, by rw [exd_len, exd_len]; exact h.hz⟩
theorem cntL_comm (l l' : List Stp) (w : Nat) : cntL l' l w = cntL l l' w := by
  unfold cntL
  congr 1
  exact List.filter_congr fun v _ => decide_eq_decide.mpr ⟨Eq.symm, Eq.symm⟩
end Lt
namespace Lt
open PySem PySem.Spec PyProof.Rows L2
/-! #### count_alike -/
structure sp_count_alike (C1 C2 : Addr) (xs : List D) (M : Mp) (Q : DK) (E : XD) : Prop where
  ex : ∃ d e f, xs = [d, e, f] ∧ okT M d ∧ okT M e ∧ (tyD M f).isSome = true ∧
    (∀ l l', d = stD l → e = stD l' → (l.length + 1) * (l'.length + 1) ≤ 4000) ∧
    (∀ l l' (w : Nat), d = stD l → e = stD l' → f = .int w → w ≤ 200 → Q (.int (cntL l l' w : Nat)) M) ∧
    (isStepsD d = false → E (.ref C1) none M) ∧ (isStepsD d = true → isStepsD e = false → E (.ref C1) none M) ∧
    (isStepsD d = true → isStepsD e = true → isIntD f (.int 0) (.int 200) = false → E (.ref C2) none M)
theorem len_count_alike {C1 C2 : Addr} (xs : List D) (M : Mp) (Q : DK) (E : XD) : sp_count_alike C1 C2 xs M Q E → xs.length = 3 := by
  rintro ⟨_, _, _, rfl, _⟩; rfl
theorem sp_count_alike_ok {C1 C2 : Addr} {l l' : List Stp} {w : Nat} {M : Mp} {Q : DK} {E : XD} (h : (l.length + 1) * (l'.length + 1) ≤ 4000) (hw : w ≤ 200) (q : Q (.int (cntL l l' w : Nat)) M) : sp_count_alike C1 C2 [stD l, stD l', .int w] M Q E := by
  obtain ⟨p1, p2⟩ := prod_le h
  have h1 : l.length ≤ 1000000 := by omega
  have h2 : l'.length ≤ 1000000 := by omega
  refine ⟨_, _, _, rfl, okT_st h1, okT_st h2, rfl, fun a b e1 e2 => ?_, fun a b k e1 e2 e3 _ => ?_, fun e => (by rw [isSteps_st] at e; cases e), fun _ e => (by rw [isSteps_st] at e; cases e), fun _ _ e => (by simp [isIntD, leB, geB] at e; omega)⟩
  · rw [← stD_inj e1, ← stD_inj e2]; exact h
  · rw [← stD_inj e1, ← stD_inj e2]
    injection e3 with e3
    rw [← Int.ofNat_inj.mp e3]
    exact q
abbrev natD (n : Nat) : D := .int (n : Nat)
abbrev levK (L : List (Pr × Nat)) : List D := L.map fun p => pairD p.1
abbrev levV (L : List (Pr × Nat)) : List D := L.map fun p => natD p.2
/-- pairs that are met behind t bits, none of them twice -/
structure Lev (l l' : List Stp) (t : Nat) (L : List (Pr × Nat)) : Prop where
  nd : (L.map (·.1)).Nodup
  met : ∀ p ∈ L.map (·.1), Met l l' t p
theorem Lev.len {l l' : List Stp} {t : Nat} {L : List (Pr × Nat)} (h : Lev l l' t L) (hz : (l.length + 1) * (l'.length + 1) ≤ 4000) : L.length ≤ 16000000 := by
  have h1 := nodup_le h.nd fun p hp => (h.met p hp).cand
  have h2 := cand_pairs_len t l l'
  have h3 := Nat.mul_le_mul hz hz
  rw [List.length_map] at h1
  omega
theorem Lev.put {l l' : List Stp} {t : Nat} {L : List (Pr × Nat)} (h : Lev l l' t L) {p : Pr} (hp : Met l l' t p) (n : Nat) : Lev l l' t (aput L p n) :=
  ⟨aput_nodup h.nd p n, fun x hx => (aput_mem.mp hx).elim (h.met x) fun e => e ▸ hp⟩
theorem int200 {f : D} (h : isIntD f (.int 0) (.int 200) = true) : ∃ n : Nat, f = .int n ∧ n ≤ 200 := by
  cases f with
  | int i =>
    simp [isIntD, leB, geB] at h
    exact ⟨i.toNat, by rw [Int.toNat_of_nonneg h.1], by omega⟩
  | _ => cases h
theorem sum_phE : ∀ L : List (Pr × Nat), ((L.filter fun p => decide (sv p.1.1 0 = sv p.1.2 0)).map fun p => ((p.2 : Nat) : Int)).sum = (Lt.W phE L : Nat)
  | [] => rfl
  | p :: L => by
    have ih := sum_phE L
    rw [W_cons, List.filter_cons]
    by_cases h : sv p.1.1 0 = sv p.1.2 0
    · have e : phE p.1 = 1 := by unfold phE; rw [if_pos h]
      rw [if_pos (by simpa using h), e, List.map_cons, List.sum_cons, ih]; omega
    · have e : phE p.1 = 0 := by unfold phE; rw [if_neg h]
      rw [if_neg (by simpa using h), e, ih]; omega
/-! #### _law_pot -/
theorem cpowX {i j : Int} (a : Nat) (ha : i.natAbs < 2 ^ a) (h0 : 0 ≤ j) (h : (a : Int) * j ≤ 2 ^ 27) : CPowX i j := by
  have x := PyProof.Rows.intBits_le ha
  refine ⟨h0, Int.le_trans (Int.mul_le_mul_of_nonneg_right ?_ h0) h⟩
  omega
def sp__law_pot : DSp := fun xs M Q _ => ∃ (ns : List Int) (k : Int), xs = [.scr ns, .int k] ∧ 0 ≤ k ∧ k ≤ 100 ∧ ∀ p l, M p = none → Bar l 0 → Q (.ref p) (mup M p (.lst l))
theorem len__law_pot (xs : List D) (M : Mp) (Q : DK) (E : XD) : sp__law_pot xs M Q E → xs.length = 2 := by
  rintro ⟨_, _, rfl, _⟩; rfl
/-- how many cells are taken -/
theorem kmx (n : Nat) {a b : Int} (h0 : 0 ≤ a) (h : a ≤ b) : (if (if (n : Int) < b then (n : Int) else b) > a then (if (n : Int) < b then (n : Int) else b) else a) ≤ b ∧ 0 ≤ (if (if (n : Int) < b then (n : Int) else b) > a then (if (n : Int) < b then (n : Int) else b) else a) := by
  split <;> split <;> omega
/-! #### _law_take p -/
def sp__law_take_p : DSp := fun xs M Q _ => ∃ (b : Addr) (many n : Int) (l : List D), xs = [.ref b, .int many] ∧ 1 ≤ many ∧ many < 2 ^ 200 ∧ M b = some (.lst l) ∧ Bar l n ∧ n < 2 ^ 60 ∧
  ∀ r l', 0 ≤ r → r < many → Bar l' (n + 1) → Q (.int r) (mup M b (.lst l'))
theorem len__law_take_p (xs : List D) (M : Mp) (Q : DK) (E : XD) : sp__law_take_p xs M Q E → xs.length = 2 := by
  rintro ⟨_, _, _, _, rfl, _⟩; rfl
/-! #### _law_run p -/
structure sp__law_run_p (xs : List D) (M : Mp) (Q : DK) (E : XD) : Prop where
  ex : ∃ (l : List Stp) (n : Int), xs = [stD l, .int n] ∧ Q (.int (run l n)) M
theorem len__law_run_p (xs : List D) (M : Mp) (Q : DK) (E : XD) : sp__law_run_p xs M Q E → xs.length = 2 := by
  rintro ⟨_, _, rfl, _⟩; rfl
theorem sp__law_run_p_ok {l : List Stp} {n : Int} {M : Mp} {Q : DK} {E : XD} (q : Q (.int (run l n)) M) : sp__law_run_p [stD l, .int n] M Q E := ⟨l, n, rfl, q⟩
/-! #### _law_some p -/
def sp__law_some_p : DSp := fun xs M Q _ => ∃ (b : Addr) (most great n : Int) (l : List D), xs = [.ref b, .int most, .int great] ∧ 0 ≤ most ∧ most ≤ 10 ∧ 1 ≤ great ∧ great ≤ 95 ∧ M b = some (.lst l) ∧ Bar l n ∧ n < 2 ^ 59 ∧
    ∀ (sts : List Stp) l', (sts.length : Int) ≤ most → (∀ s ∈ sts, s.lt 100) → Bar l' (n + 1000) → Q (stD sts) (mup M b (.lst l'))
theorem len__law_some_p (xs : List D) (M : Mp) (Q : DK) (E : XD) : sp__law_some_p xs M Q E → xs.length = 3 := by
  rintro ⟨_, _, _, _, _, rfl, _⟩; rfl
/-! #### _law_bit p -/
/-- a state of the law's own: steps, with gaps for the masks that have ended -/
abbrev Ls := List (Option Stp)
instance instOStp : DecidableEq (Option Stp) := inferInstance
instance instLs : DecidableEq Ls := inferInstance
abbrev LPr := Ls × Ls
instance instLPr : DecidableEq LPr := @instDecidableEqProd Ls Ls instLs instLs
def oD : Option Stp → D
  | none => .str ""
  | some s => s.d
abbrev lsD (s : Ls) : D := .tup (s.map oD)
def lbit : Int → Ls → Int × Ls
  | b, [] => (b, [])
  | b, none :: r => ((lbit b r).1, none :: (lbit b r).2)
  | b, some (.mk m) :: r => ((lbit m.wr r).1, (if b = m.trig then none else some (.mk m)) :: (lbit m.wr r).2)
  | b, some (.add k) :: r => ((lbit ((k + b) % 2) r).1, some (.add ((k + b) / 2)) :: (lbit ((k + b) % 2) r).2)
def ldrop (s : Ls) : List Stp := s.filterMap id
def lval (s : Ls) (n : Int) : Int := run (ldrop s) n
theorem lval_none (s : Ls) (n : Int) : lval (none :: s) n = lval s n := rfl
theorem lval_some (x : Stp) (s : Ls) (n : Int) : lval (some x :: s) n = lval s (x.ap n) := rfl
theorem lbit_val : ∀ (s : Ls) (b : Int), (b = 0 ∨ b = 1) → ((lbit b s).1 = 0 ∨ (lbit b s).1 = 1) ∧ ∀ n, lval s (2 * n + b) = 2 * lval (lbit b s).2 n + (lbit b s).1
  | [], b, h => ⟨h, fun n => rfl⟩
  | none :: r, b, h => by
    obtain ⟨h1, h2⟩ := lbit_val r b h
    exact ⟨h1, fun n => h2 n⟩
  | some (.mk m) :: r, b, h => by
    have hw : m.wr = 0 ∨ m.wr = 1 := by cases m <;> simp [Mk.wr]
    obtain ⟨h1, h2⟩ := lbit_val r m.wr hw
    refine ⟨h1, fun n => ?_⟩
    rw [lval_some]
    show lval r (m.ap (2 * n + b)) = _
    rw [m.ap_bit, show (2 * n + b) % 2 = b by omega, show (2 * n + b) / 2 = n by omega, h2]
    show _ = 2 * lval ((if b = m.trig then none else some (.mk m)) :: (lbit m.wr r).2) n + (lbit m.wr r).1
    by_cases ht : b = m.trig
    · rw [if_pos ht, if_pos ht]; rfl
    · rw [if_neg ht, if_neg ht]; rfl
  | some (.add k) :: r, b, h => by
    obtain ⟨h1, h2⟩ := lbit_val r ((k + b) % 2) (by omega)
    refine ⟨h1, fun n => ?_⟩
    rw [lval_some]
    show lval r (2 * n + b + k) = 2 * lval (lbit ((k + b) % 2) r).2 (n + (k + b) / 2) + (lbit ((k + b) % 2) r).1
    rw [← h2, show 2 * (n + (k + b) / 2) + (k + b) % 2 = 2 * n + b + k by omega]
def lcand (t : Nat) : Ls → List Ls
  | [] => [[]]
  | none :: r => (lcand t r).map (none :: ·)
  | some (.mk m) :: r => (lcand t r).map (none :: ·) ++ (lcand t r).map (some (.mk m) :: ·)
  | some (.add k) :: r => (lcand t r).map (some (.add (k / 2 ^ t)) :: ·) ++ (lcand t r).map (some (.add (k / 2 ^ t + 1)) :: ·)
theorem lcand_len (t : Nat) : ∀ s : Ls, (lcand t s).length ≤ 2 ^ s.length
  | [] => Nat.le_refl _
  | none :: r => by
    have := lcand_len t r
    rw [lcand, List.length_map, List.length_cons, Nat.pow_succ]; omega
  | some (.mk m) :: r => by
    have := lcand_len t r
    rw [lcand, List.length_append, List.length_map, List.length_map, List.length_cons, Nat.pow_succ]; omega
  | some (.add k) :: r => by
    have := lcand_len t r
    rw [lcand, List.length_append, List.length_map, List.length_map, List.length_cons, Nat.pow_succ]; omega
theorem lcand_start : ∀ s : Ls, s ∈ lcand 0 s
  | [] => by simp [lcand]
  | none :: r => by rw [lcand]; exact List.mem_map_of_mem (lcand_start r)
  | some (.mk m) :: r => by rw [lcand]; exact List.mem_append_right _ (List.mem_map_of_mem (lcand_start r))
  | some (.add k) :: r => by
    rw [lcand, Int.pow_zero, Int.ediv_one]; exact List.mem_append_left _ (List.mem_map_of_mem (lcand_start r))
theorem lcand_next (t : Nat) : ∀ (s0 s : Ls) (b : Int), (b = 0 ∨ b = 1) → s ∈ lcand t s0 → (lbit b s).2 ∈ lcand (t + 1) s0
  | [], s, b, hb, h => by
    rw [lcand, List.mem_singleton] at h
    subst h; rw [lcand]; exact List.mem_singleton_self _
  | none :: r, s, b, hb, h => by
    rw [lcand] at h
    obtain ⟨x, hx, rfl⟩ := List.mem_map.mp h
    rw [lcand]; exact List.mem_map_of_mem (f := (none :: ·)) (lcand_next t r x b hb hx)
  | some (.mk m) :: r, s, b, hb, h => by
    have hw : m.wr = 0 ∨ m.wr = 1 := by cases m <;> simp [Mk.wr]
    rw [lcand] at h ⊢
    rcases List.mem_append.mp h with h | h
    · obtain ⟨x, hx, rfl⟩ := List.mem_map.mp h
      exact List.mem_append_left _ (List.mem_map_of_mem (f := (none :: ·)) (lcand_next t r x b hb hx))
    · obtain ⟨x, hx, rfl⟩ := List.mem_map.mp h
      have ih := lcand_next t r x m.wr hw hx
      show ((if b = m.trig then none else some (.mk m)) :: (lbit m.wr x).2) ∈ _
      split
      · exact List.mem_append_left _ (List.mem_map_of_mem (f := (none :: ·)) ih)
      · exact List.mem_append_right _ (List.mem_map_of_mem (f := (some (.mk m) :: ·)) ih)
  | some (.add k) :: r, s, b, hb, h => by
    have e : k / 2 ^ (t + 1) = k / 2 ^ t / 2 := ediv_pow_succ' k t
    have two : ∀ (q' : Int) (x : Ls), x ∈ lcand t r → (q' = k / 2 ^ t / 2 ∨ q' = k / 2 ^ t / 2 + 1) → ∀ b' : Int, (b' = 0 ∨ b' = 1) → (some (Stp.add q') :: (lbit b' x).2) ∈ (lcand (t + 1) r).map (some (.add (k / 2 ^ t / 2)) :: ·) ++ (lcand (t + 1) r).map (some (.add (k / 2 ^ t / 2 + 1)) :: ·) := fun q' x hx hq b' hb' => by
      have ih := lcand_next t r x b' hb' hx
      rcases hq with rfl | rfl
      · exact List.mem_append_left _ (List.mem_map_of_mem (f := (some (.add (k / 2 ^ t / 2)) :: ·)) ih)
      · exact List.mem_append_right _ (List.mem_map_of_mem (f := (some (.add (k / 2 ^ t / 2 + 1)) :: ·)) ih)
    rw [lcand] at h ⊢
    rw [e]
    generalize k / 2 ^ t = q at h two ⊢
    rcases List.mem_append.mp h with h | h
    · obtain ⟨x, hx, rfl⟩ := List.mem_map.mp h
      exact two _ x hx (by omega) _ (by omega)
    · obtain ⟨x, hx, rfl⟩ := List.mem_map.mp h
      exact two _ x hx (by omega) _ (by omega)
def oN : Option Stp → NestedKey
  | none => .text ""
  | some (.mk m) => .text m.st
  | some (.add k) => .num k
def lsN (s : Ls) : NestedKey := .tup (s.map oN)
theorem nk_o (o : Option Stp) : nk (oD o) = some (oN o) := by
  match o with
  | none => rw [oD, nk]; rfl
  | some (.mk m) => rw [oD, Stp.d, nk]; rfl
  | some (.add k) => rw [oD, Stp.d, nk]; rfl
theorem nks_o : ∀ s : Ls, nks (s.map oD) = some (s.map oN)
  | [] => by rw [List.map_nil, nks]; rfl
  | o :: r => by rw [List.map_cons, nks, nk_o, nks_o r]; rfl
theorem nk_ls (s : Ls) : nk (lsD s) = some (lsN s) := by rw [lsD, nk, nks_o]; rfl
theorem oN_inj : ∀ {a b : Option Stp}, oN a = oN b → a = b
  | none, none, _ => rfl
  | none, some (.mk m), h => by
    injection h with h
    cases m <;> exact absurd h (by decide)
  | none, some (.add k), h => by injection h
  | some (.mk m), none, h => by
    injection h with h
    cases m <;> exact absurd h (by decide)
  | some (.mk m), some (.mk n), h => by
    injection h with h
    rw [mk_st_inj h]
  | some (.mk m), some (.add k), h => by injection h
  | some (.add k), none, h => by injection h
  | some (.add k), some (.mk m), h => by injection h
  | some (.add k), some (.add j), h => by
    injection h with h
    rw [h]
theorem los_inj : ∀ {a b : Ls}, a.map oN = b.map oN → a = b
  | [], [], _ => rfl
  | [], _ :: _, h => by simp at h
  | _ :: _, [], h => by simp at h
  | x :: a, y :: b, h => by
    rw [List.map_cons, List.map_cons] at h
    injection h with h1 h2
    rw [oN_inj h1, los_inj h2]
theorem lsN_inj {s t : Ls} (h : lsN s = lsN t) : s = t := by
  unfold lsN at h
  injection h with h
  exact los_inj h
theorem dep_o : ∀ s : Ls, NestedKey.depthAll (s.map oN) ≤ 1
  | [] => by rw [List.map_nil, NestedKey.depthAll]; decide
  | o :: r => by
    have := dep_o r
    rw [List.map_cons, NestedKey.depthAll]
    match o with
    | none => simp only [oN, NestedKey.depth]; omega
    | some (.mk m) => simp only [oN, NestedKey.depth]; omega
    | some (.add k) => simp only [oN, NestedKey.depth]; omega
theorem lsN_dep (s : Ls) : (lsN s).depth ≤ 3 := by
  have := dep_o s
  unfold lsN
  simp only [NestedKey.depth]
  omega
abbrev lprD (p : LPr) : D := .tup [lsD p.1, lsD p.2]
def lprN (p : LPr) : NestedKey := .tup [lsN p.1, lsN p.2]
theorem kd_lpr : KD lprD lprN where
  nk := fun p => by rw [lprD, nk, nks, nk_ls, nks, nk_ls, nks]; rfl
  inj := fun a b h => by
    unfold lprN at h
    injection h with h
    injection h with h1 h
    injection h with h2 _
    exact Prod.ext (lsN_inj h1) (lsN_inj h2)
  tup := fun p => ⟨_, rfl⟩
  dep := fun p => by
    have h1 := lsN_dep p.1
    have h2 := lsN_dep p.2
    unfold lprN
    simp only [NestedKey.depth, NestedKey.depthAll]
    omega
structure sp__law_bit_p (xs : List D) (M : Mp) (Q : DK) (E : XD) : Prop where
  ex : ∃ (s : Ls) (b : Int), xs = [lsD s, .int b] ∧ (b = 0 ∨ b = 1) ∧ s.length ≤ 100000 ∧ Q (.tup [.int (lbit b s).1, lsD (lbit b s).2]) M
theorem len__law_bit_p (xs : List D) (M : Mp) (Q : DK) (E : XD) : sp__law_bit_p xs M Q E → xs.length = 2 := by
  rintro ⟨_, _, rfl, _⟩; rfl
theorem sp__law_bit_p_ok {s : Ls} {b : Int} {M : Mp} {Q : DK} {E : XD} (hb : b = 0 ∨ b = 1) (hl : s.length ≤ 100000) (q : Q (.tup [.int (lbit b s).1, lsD (lbit b s).2]) M) : sp__law_bit_p [lsD s, .int b] M Q E := ⟨s, b, rfl, hb, hl, q⟩
/-! #### parting_in -/
structure sp_parting_in (xs : List D) (M : Mp) (Q : DK) (E : XD) : Prop where
  ex : ∃ (l l' : List Stp) (B : Nat), xs = [stD l, stD l'] ∧ (∀ s ∈ l, s.lt B) ∧ (∀ s ∈ l', s.lt B) ∧ (B + 2 * (l.length + l'.length) + 5) * (cq l.length * cq l'.length) ≤ 16000000 ∧ (∀ o, IsPart l l' o → Q (optI o) M)
theorem len_parting_in (xs : List D) (M : Mp) (Q : DK) (E : XD) : sp_parting_in xs M Q E → xs.length = 2 := by
  rintro ⟨_, _, _, rfl, _⟩; rfl
theorem sp_parting_in_ok {B : Nat} {l l' : List Stp} {M : Mp} {Q : DK} {E : XD} (h : PcOk B l l') (q : ∀ o, IsPart l l' o → Q (optI o) M) : sp_parting_in [stD l, stD l'] M Q E := ⟨l, l', B, rfl, h.h1, h.h2, h.hz, q⟩
/-! #### do_the_same -/
structure sp_do_the_same (xs : List D) (M : Mp) (Q : DK) (E : XD) : Prop where
  ex : ∃ (l l' : List Stp) (B : Nat), xs = [stD l, stD l'] ∧ PcOk B l l' ∧ ∀ b : Bool, (b = true ↔ Same l l') → Q (.bl b) M
theorem len_do_the_same (xs : List D) (M : Mp) (Q : DK) (E : XD) : sp_do_the_same xs M Q E → xs.length = 2 := by
  rintro ⟨_, _, _, rfl, _⟩; rfl
theorem sp_do_the_same_ok {B : Nat} {l l' : List Stp} {M : Mp} {Q : DK} {E : XD} (h : PcOk B l l') (q : ∀ b : Bool, (b = true ↔ Same l l') → Q (.bl b) M) : sp_do_the_same [stD l, stD l'] M Q E := ⟨l, l', B, rfl, h, q⟩
/-! #### same_function -/
structure sp_same_function (C1 : Addr) (xs : List D) (M : Mp) (Q : DK) (E : XD) : Prop where
  ex : ∃ d e, xs = [d, e] ∧ okT M d ∧ okT M e ∧
    (∀ l l', d = stD l → e = stD l' → ∃ B, PcOk B l l') ∧
    (∀ l l' (b : Bool), d = stD l → e = stD l' → (b = true ↔ Same l l') → Q (.bl b) M) ∧
    (isStepsD d = false → E (.ref C1) none M) ∧ (isStepsD d = true → isStepsD e = false → E (.ref C1) none M)
theorem len_same_function {C1 : Addr} (xs : List D) (M : Mp) (Q : DK) (E : XD) : sp_same_function C1 xs M Q E → xs.length = 2 := by
  rintro ⟨_, _, rfl, _⟩; rfl
theorem sp_same_function_ok {C1 : Addr} {B : Nat} {l l' : List Stp} {M : Mp} {Q : DK} {E : XD} (h : PcOk B l l') (q : ∀ b : Bool, (b = true ↔ Same l l') → Q (.bl b) M) : sp_same_function C1 [stD l, stD l'] M Q E := by
  obtain ⟨p1, p2⟩ := h.len
  refine ⟨_, _, rfl, okT_st (by omega), okT_st (by omega), fun a b e1 e2 => ?_, fun a b k e1 e2 => ?_, fun e => (by rw [isSteps_st] at e; cases e), fun _ e => (by rw [isSteps_st] at e; cases e)⟩
  · rw [← stD_inj e1, ← stD_inj e2]; exact ⟨B, h⟩
  · rw [← stD_inj e1, ← stD_inj e2]; exact q k
theorem sp_same_function_t {C1 : Addr} {B : Nat} {l l' : List Stp} {M : Mp} {Q : DK} {E : XD} (h : PcOk B l l') (s : Same l l') (q : Q (.bl true) M) : sp_same_function C1 [stD l, stD l'] M Q E :=
  sp_same_function_ok h fun b hb => by rw [hb.mpr s]; exact q
/-! #### parting_number -/
structure sp_parting_number (C1 : Addr) (xs : List D) (M : Mp) (Q : DK) (E : XD) : Prop where
  ex : ∃ d e, xs = [d, e] ∧ okT M d ∧ okT M e ∧
    (∀ l l', d = stD l → e = stD l' → ∃ B, PcOk B l l') ∧
    (∀ l l' o, d = stD l → e = stD l' → IsPart l l' o → Q (optI o) M) ∧
    (isStepsD d = false → E (.ref C1) none M) ∧ (isStepsD d = true → isStepsD e = false → E (.ref C1) none M)
theorem len_parting_number {C1 : Addr} (xs : List D) (M : Mp) (Q : DK) (E : XD) : sp_parting_number C1 xs M Q E → xs.length = 2 := by
  rintro ⟨_, _, rfl, _⟩; rfl
theorem sp_parting_number_ok {C1 : Addr} {B : Nat} {l l' : List Stp} {M : Mp} {Q : DK} {E : XD} (h : PcOk B l l') (q : ∀ o, IsPart l l' o → Q (optI o) M) : sp_parting_number C1 [stD l, stD l'] M Q E := by
  obtain ⟨p1, p2⟩ := h.len
  refine ⟨_, _, rfl, okT_st (by omega), okT_st (by omega), fun a b e1 e2 => ?_, fun a b k e1 e2 => ?_, fun e => (by rw [isSteps_st] at e; cases e), fun _ e => (by rw [isSteps_st] at e; cases e)⟩
  · rw [← stD_inj e1, ← stD_inj e2]; exact ⟨B, h⟩
  · rw [← stD_inj e1, ← stD_inj e2]; exact q k
/-! #### parting_below -/
structure sp_parting_below (C1 : Addr) (xs : List D) (M : Mp) (Q : DK) (E : XD) : Prop where
  ex : ∃ d e, xs = [d, e] ∧ okT M d ∧ okT M e ∧
    (∀ l l', d = stD l → e = stD l' → ∃ B, PcOk B l l') ∧
    (∀ l l' o, d = stD l → e = stD l' → IsBelow l l' o → Q (optI o) M) ∧
    (isStepsD d = false → E (.ref C1) none M) ∧ (isStepsD d = true → isStepsD e = false → E (.ref C1) none M)
theorem len_parting_below {C1 : Addr} (xs : List D) (M : Mp) (Q : DK) (E : XD) : sp_parting_below C1 xs M Q E → xs.length = 2 := by
  rintro ⟨_, _, rfl, _⟩; rfl
theorem sp_parting_below_ok {C1 : Addr} {B : Nat} {l l' : List Stp} {M : Mp} {Q : DK} {E : XD} (h : PcOk B l l') (q : ∀ o, IsBelow l l' o → Q (optI o) M) : sp_parting_below C1 [stD l, stD l'] M Q E := by
  obtain ⟨p1, p2⟩ := h.len
  refine ⟨_, _, rfl, okT_st (by omega), okT_st (by omega), fun a b e1 e2 => ?_, fun a b k e1 e2 => ?_, fun e => (by rw [isSteps_st] at e; cases e), fun _ e => (by rw [isSteps_st] at e; cases e)⟩
  · rw [← stD_inj e1, ← stD_inj e2]; exact ⟨B, h⟩
  · rw [← stD_inj e1, ← stD_inj e2]; exact q k
/-! #### _law_power q -/
def sp__law_power_q : DSp := fun xs M Q _ => ∃ n : Nat, xs = [.int n] ∧ n ≤ 1000 ∧ Q (.int (2 ^ n)) M
theorem len__law_power_q (xs : List D) (M : Mp) (Q : DK) (E : XD) : sp__law_power_q xs M Q E → xs.length = 1 := by
  rintro ⟨_, rfl, _⟩; rfl
/-! #### _law_joined j -/
theorem st_pdT {M : Mp} {a : PySem.Addr} {l : List Stp} (h : M a = some (.lst (l.map Stp.d))) : pdT M (.ref a) = some (.list (l.map Stp.pd)) := by
  unfold pdT
  dsimp only
  rw [h]
  dsimp only
  rw [pds_st]; rfl
theorem st_nil (l : List Stp) : PyData.eqv (.list (l.map Stp.pd)) (.list []) = l.isEmpty := by
  cases l with
  | nil => rfl
  | cons p ps => rfl
def lk (K : Nat) : Stp → Prop
  | .add k => k.natAbs ≤ K
  | .mk _ => True
theorem lk.mono {c d : Nat} {s : Stp} (h : lk c s) (e : c ≤ d) : lk d s := by
  cases s with
  | add k => exact Nat.le_trans h e
  | mk m => trivial
structure sp__law_joined_j (xs : List D) (M : Mp) (Q : DK) (E : XD) : Prop where
  ex : ∃ (l : List Stp) (K : Nat), xs = [stD l] ∧ l.length ≤ 100 ∧ (∀ s ∈ l, lk K s) ∧ ∀ l2, Same l l2 → l2.length ≤ l.length → (∀ s ∈ l2, lk (l.length * K) s) → Q (stD l2) M
theorem len__law_joined_j (xs : List D) (M : Mp) (Q : DK) (E : XD) : sp__law_joined_j xs M Q E → xs.length = 1 := by
  rintro ⟨_, _, rfl, _⟩; rfl
/-! #### works_once -/
/-- twice is once -/
def Once (l : List Stp) : Prop := ∀ n : Int, run l (run l n) = run l n
theorem once_same (l : List Stp) : Same (l ++ l) l ↔ Once l := by
  unfold Same Once
  constructor
  · intro h n; have := h n; rwa [run_append] at this
  · intro h n; rw [run_append]; exact h n
structure sp_works_once (C1 : Addr) (xs : List D) (M : Mp) (Q : DK) (E : XD) : Prop where
  ex : ∃ d, xs = [d] ∧ okT M d ∧ (∀ l, d = stD l → ∃ B, PcOk B (l ++ l) l) ∧ (∀ l (b : Bool), d = stD l → (b = true ↔ Once l) → Q (.bl b) M) ∧ (isStepsD d = false → E (.ref C1) none M)
theorem len_works_once {C1 : Addr} (xs : List D) (M : Mp) (Q : DK) (E : XD) : sp_works_once C1 xs M Q E → xs.length = 1 := by
  rintro ⟨_, rfl, _⟩; rfl
theorem sp_works_once_ok {C1 : Addr} {B : Nat} {l : List Stp} {M : Mp} {Q : DK} {E : XD} (h : PcOk B (l ++ l) l) (q : ∀ b : Bool, (b = true ↔ Once l) → Q (.bl b) M) : sp_works_once C1 [stD l] M Q E := by
  obtain ⟨p1, p2⟩ := h.len
  refine ⟨_, rfl, okT_st (by omega), fun a e1 => ?_, fun a k e1 => ?_, fun e => (by rw [isSteps_st] at e; cases e)⟩
  · rw [← stD_inj e1]; exact ⟨B, h⟩
  · rw [← stD_inj e1]; exact q k
/-! #### _law_word n -/
structure sp__law_word_n (xs : List D) (M : Mp) (Q : DK) (E : XD) : Prop where
  ex : ∃ (v : Int) (k : Nat), xs = [.int v, .int k] ∧ k ≤ 200 ∧ Q (.str (wordS (nBits v k))) M
theorem len__law_word_n (xs : List D) (M : Mp) (Q : DK) (E : XD) : sp__law_word_n xs M Q E → xs.length = 2 := by
  rintro ⟨_, _, rfl, _⟩; rfl
end Lt
/-! text[::-1] -/
namespace Lt
open PySem PySem.Spec PyProof.Rows L2
section
variable {X : Cx} {M0 : Wd} {H0 : Hp} {e o i : Expr} {te to ti : DE} {apos cpos pos : Pos}
/-- a text turned round -/
def revS (z : Str) : Str := ⟨z.cps.toList.reverse.toArray⟩
theorem revS_ix (z : Str) : ((Builtin.Str.strSliceIndices none none (-1) z.length).filterMap (z.cps[·]?)).toArray = z.cps.toList.reverse.toArray := by
  have e : Builtin.Str.strSliceIndices none none (-1) z.length = sliceRange ((z.length : Int) - 1) (-1) (-1) := rfl
  rw [e, PySem.W.krv_sliceRange, PySem.W.krv_range, List.filterMap_reverse]
  have : z.length = z.cps.size := rfl
  rw [this, PySem.W.krv_all]
def tRevS (te : TE) : TE := fun σ H Q => te σ H fun x H1 => ∃ z, x = .str z ∧ z.length ≤ sizeLine ∧ Q (.str (revS z)) H1
theorem pe_revS {e : Expr} {te : TE} {k : Nat} {p1 p2 p3 pos : Pos} (he : PE X e te) : PE X (.Subscript e (.Slice none none (some (.UnaryOp .USub (.Constant (.int 1) k p1) p2)) p3) pos) (tRevS te) := by
  refine ⟨fun pins s σ H Q I h => ?_⟩
  refine Subscript_ (thn (he.run pins s σ H _ I h) fun v s1 ⟨x, H1, I1, r1, q1⟩ => ?_)
  obtain ⟨z, ex, hz, q⟩ := q1
  subst ex
  obtain ⟨t, rfl⟩ := r1
  have hst : PO X (some (.UnaryOp .USub (.Constant (.int 1) k p1) p2)) (tPart (tUn (rU fun i => .int (-i)) (tC (.int 1)))) := po_some (pe_un un_neg pe_int)
  refine wpAny_Slice (thn (po_none.run pins s1 σ H1 (fun o H2 => o = none ∧ H2 = H1) I1 ⟨rfl, rfl⟩) fun vl s2 ⟨l, H2, I2, pl, el, e2⟩ => ?_)
  subst el e2
  refine thn (po_none.run pins s2 σ H2 (fun o H3 => o = none ∧ H3 = H2) I2 ⟨rfl, rfl⟩) fun vu s3 ⟨u, H3, I3, pu, eu, e3⟩ => ?_
  subst eu e3
  refine thn (hst.run pins s3 σ H3 (fun o H4 => o = some (-1) ∧ H4 = H3) I3 ⟨1, rfl, -1, rfl, rfl, rfl⟩) fun vs s4 ⟨o, H4, I4, ps, eo, e4⟩ => ?_
  subst eo e4
  have I5 : Inv X pins σ H4 { s4 with heap := s4.heap.push { cls := .type "slice", data := .fields #[vl, vu, vs] } } := I4.kept (t' := s4.toks) fun b ob q => Heap.get?_push_of_some _ q
  show wpAny (model X.prog X.w) X.A (subscriptTail e (.Slice none none (some (.UnaryOp .USub (.Constant (.int 1) k p1) p2)) p3) (.str z t) (.ref s4.heap.objs.size)) (L2.EP X pins σ Q) X.xe { s4 with heap := s4.heap.push { cls := .type "slice", data := .fields #[vl, vu, vs] } }
  refine tail_any (ops := [.str z t, .ref s4.heap.objs.size]) (typeIs_str _ _ _) (F.slot_str_getitem.lookup) ?_ (by with_unfolding_all rfl)
  obtain ⟨l, rfl, hl⟩ := IsPart.raw pl
  obtain ⟨u, rfl, hu⟩ := IsPart.raw pu
  obtain ⟨st, rfl, hs⟩ := IsPart.raw ps
  cases l with
  | some _ => cases hl
  | none =>
  cases u with
  | some _ => cases hu
  | none =>
  cases st with
  | none => cases hs
  | some sv =>
  obtain ⟨sv, tk⟩ := sv
  have hs : sv = -1 := by simpa using hs
  subst hs
  refine wpAny_getItem_str_slice (l := none) (u := none) (st := some (-1, tk)) (Heap.IsSliceOf.new _ _ _ _) rfl ?_
  have hlz : (revS z).length ≤ sizeLine := by
    show z.cps.toList.reverse.toArray.size ≤ sizeLine
    rw [List.size_toArray, List.length_reverse, Array.length_toList]; exact hz
  show Made.post (Made.str ⟨((Builtin.Str.strSliceIndices none none (-1) z.length).filterMap (z.cps[·]?)).toArray⟩) (L2.EP X pins σ Q) _
  rw [revS_ix]
  exact ⟨hlz, .str _, H4, I5.tok _, ⟨_, rfl⟩, q⟩
def dRevS (te : DE) : DE := fun ds M Q => te ds M fun x M1 => match x with
  | .str z => z.length ≤ sizeLine ∧ Q (.str (revS z)) M1
  | _ => False
theorem d_revS {k : Nat} {p1 p2 p3 : Pos} (he : EE X M0 H0 e te) : EE X M0 H0 (.Subscript e (.Slice none none (some (.UnaryOp .USub (.Constant (.int 1) k p1) p2)) p3) pos) (dRevS te) := by
  refine pe_imp (pe_revS he) fun σ H Q ⟨ds, M, Q', le, rm, rs, h, hq⟩ => ?_
  refine ⟨ds, M, _, le, rm, rs, h, fun d M1 v H1 q l1 rm1 r1 => ?_⟩
  cases d with
  | str z =>
    rw [Rep.str_iff] at r1
    exact ⟨z, r1, q.1, hq _ M1 _ _ q.2 l1 rm1 (Rep.str_iff.mpr rfl)⟩
  | _ => exact q.elim
end
end Lt
/-! how great the least parting number can be -/
namespace Lt
open PySem PySem.Spec PyProof.Rows L2
theorem prtD_start (l : List Stp) : partsD (l.map Stp.d) = prtD (l.mapIdx fun i s => (i, s)) := by
  unfold partsD prtD
  refine List.ext_getElem? fun i => ?_
  rw [List.getElem?_mapIdx, List.getElem?_map, List.getElem?_map, List.getElem?_mapIdx]
  cases l[i]? <;> rfl
theorem mapIdx_snd (l : List Stp) : (l.mapIdx fun i s => (i, s)).map (·.2) = l := by
  refine List.ext_getElem? fun i => ?_
  rw [List.getElem?_map, List.getElem?_mapIdx]
  cases l[i]? <;> rfl
theorem mup_self {M : Mp} {b : PySem.Addr} {o : MO} (h : M b = some o) : mup M b o = M := by
  funext a
  unfold mup
  by_cases e : a = b
  · subst e; rw [if_pos rfl, h]
  · rw [if_neg e]
/-- a result by the low bits and the state behind them -/
theorem run_sta (l : List Stp) (w h : Int) (t : Nat) : run l (w + 2 ^ t * h) = sv (fin (startOf l) (nBits w t)) (w / 2 ^ t + h) * 2 ^ t + valL (nBits (run l w) t) := by
  have p0 : (0 : Int) < 2 ^ t := Int.pow_pos (by decide)
  have e := sv_fin (nBits w t) (startOf l) (w / 2 ^ t + h)
  rw [nBits_len, sv_start, wrt_bits] at e
  rw [← e]
  congr 1
  have := nBits_val t w
  rw [Int.add_mul, Int.mul_comm h]
  omega
theorem run_sta0 (l : List Stp) {w : Int} (h : Int) {t : Nat} (h0 : 0 ≤ w) (h1 : w < 2 ^ t) : run l (w + 2 ^ t * h) = sv (fin (startOf l) (nBits w t)) h * 2 ^ t + valL (nBits (run l w) t) := by
  rw [run_sta, Int.ediv_eq_zero_of_lt h0 h1, Int.zero_add]
theorem part_bound {B : Nat} {l l' : List Stp} (hl : ∀ s ∈ l, s.lt B) (hl' : ∀ s ∈ l', s.lt B) {m : Int} (hm : IsPart l l' (some m)) : m < 2 ^ (B + 2 * (l.length + l'.length) + 2 + cq l.length * cq l'.length) := by
  obtain ⟨m0, hne, hmin⟩ := hm
  generalize hT : B + 2 * (l.length + l'.length) + 2 = T
  generalize hC : cq l.length * cq l'.length = C
  refine Classical.byContradiction fun hbig => ?_
  have hbig : (2 : Int) ^ (T + C) ≤ m := by omega
  -- the pairs on the way
  let P : Nat → Pr := fun t => (fin (startOf l) (nBits m t), fin (startOf l') (nBits m t))
  have pw : ∀ {a b : Nat}, a ≤ b → (2 : Int) ^ a ≤ 2 ^ b := fun {a b} h => by
    rw [← pow_cast, ← pow_cast]
    exact Int.ofNat_le.mpr (Nat.pow_le_pow_right (by decide) h)
  have pp : ∀ a : Nat, (0 : Int) < 2 ^ a := fun a => Int.pow_pos (by decide)
  have at_ : ∀ t, t ≤ T + C → ∀ h, run l (m % 2 ^ t + 2 ^ t * h) ≠ run l' (m % 2 ^ t + 2 ^ t * h) ↔ sv (P t).1 h ≠ sv (P t).2 h := fun t ht h => by
    have w0 := Int.emod_nonneg m (Int.ne_of_gt (pp t))
    have w1 := Int.emod_lt_of_pos m (pp t)
    have ew : m % 2 ^ t < m := by
      have := pw ht
      omega
    have hb : nBits (m % 2 ^ t) t = nBits m t := nBits_mod _ _ _ (Int.emod_emod_of_dvd m (Int.dvd_refl _))
    have eq := hmin _ w0 ew
    rw [run_sta0 l h w0 w1, run_sta0 l' h w0 w1, hb, eq]
    show _ ↔ sv (fin (startOf l) (nBits m t)) h ≠ sv (fin (startOf l') (nBits m t)) h
    have p0 := pp t
    constructor
    · intro z y; exact z (by rw [y])
    · intro z y
      exact z (Int.eq_of_mul_eq_mul_right (Int.ne_of_gt p0) (by omega))
  have key : ∀ s t, s < t → t ≤ T + C → P s ≠ P t := fun s t hst ht e => by
    have em : m % 2 ^ t + 2 ^ t * (m / 2 ^ t) = m := Int.emod_add_mul_ediv m _
    have h1 := (at_ t ht (m / 2 ^ t)).mp (by rw [em]; exact hne)
    rw [← e] at h1
    have h2 := (at_ s (by omega) (m / 2 ^ t)).mpr h1
    have q1 : 1 ≤ m / 2 ^ t := (Int.le_ediv_iff_mul_le (pp t)).mpr (by have := pw ht; omega)
    have w0 := Int.emod_nonneg m (Int.ne_of_gt (pp s))
    have w1 := Int.emod_lt_of_pos m (pp s)
    have wt := Int.emod_nonneg m (Int.ne_of_gt (pp t))
    refine h2 (hmin _ ?_ ?_)
    · have := Int.mul_nonneg (Int.le_of_lt (pp s)) (by omega : 0 ≤ m / 2 ^ t)
      omega
    · have e2 : (2 : Int) ^ t = 2 ^ (t - s - 1) * 2 * 2 ^ s := by
        rw [← Int.pow_succ, ← Int.pow_add]; congr 1; omega
      have k1 := pp (t - s - 1)
      have a1 : 2 ^ s * (m / 2 ^ t + 1) ≤ 2 ^ t * (m / 2 ^ t) := by
        rw [e2]
        have b1 : 2 ^ (t - s - 1) * 2 * 2 ^ s * (m / (2 ^ (t - s - 1) * 2 * 2 ^ s)) = 2 ^ s * (2 ^ (t - s - 1) * 2 * (m / (2 ^ (t - s - 1) * 2 * 2 ^ s))) := by
          rw [Int.mul_comm (2 ^ (t - s - 1) * 2) (2 ^ s), Int.mul_assoc]
        rw [b1]
        refine Int.mul_le_mul_of_nonneg_left ?_ (Int.le_of_lt (pp s))
        rw [e2] at q1
        generalize m / (2 ^ (t - s - 1) * 2 * 2 ^ s) = q at q1
        have : 1 * (2 * q) ≤ 2 ^ (t - s - 1) * (2 * q) := Int.mul_le_mul_of_nonneg_right (by omega) (by omega)
        rw [Int.mul_assoc]
        omega
      rw [Int.mul_add, Int.mul_one] at a1
      omega
  have nd : ((List.range (C + 1)).map fun i => P (T + i)).Nodup := by
    refine List.pairwise_map.mpr ?_
    refine List.Pairwise.imp_of_mem ?_ (List.pairwise_lt_range (n := C + 1))
    intro a b ha hb hab
    have hb := List.mem_range.mp hb
    exact key (T + a) (T + b) (by omega) (by omega)
  have hle := nodup_le nd (m := pairs (candL T l) (candL T l')) fun x hx => by
    obtain ⟨i, _, rfl⟩ := List.mem_map.mp hx
    have h1 := fin_cand l m (T + i)
    have h2 := fin_cand l' m (T + i)
    rw [candL_ge hl (by omega)] at h1
    rw [candL_ge hl' (by omega)] at h2
    exact pairs_mem h1 h2
  have := cand_pairs_len2 T l l'
  rw [List.length_map, List.length_range] at hle
  omega
theorem below_bound {B : Nat} {l l' : List Stp} (hl : ∀ s ∈ l, s.lt B) (hl' : ∀ s ∈ l', s.lt B) {m : Int} (hm : IsBelow l l' (some m)) : -(2 ^ (B + 2 * (l.length + l'.length) + 2 + cq l.length * cq l'.length)) ≤ m := by
  have h : IsPart (exd l) (exd l') (some (-1 - m)) := by
    refine ⟨by have := hm.1; omega, fun e => hm.2.1 ?_, fun n h0 h1 => ?_⟩
    · have := (exd_iff l l' (-1 - m)).mp e
      have e2 : -1 - (-1 - m) = m := by omega
      rwa [e2] at this
    · exact (exd_iff l l' n).mpr (hm.2.2 (-1 - n) (by omega) (by omega))
  have := part_bound (exd_lt hl) (exd_lt hl') h
  rw [exd_len, exd_len] at this
  omega
/-- a list of steps on a word and what stands above it -/
theorem run_split (l : List Stp) {w : Int} (h : Int) {k : Nat} (h0 : 0 ≤ w) (h1 : w < 2 ^ k) : run l (w + 2 ^ k * h) = run (stepsOf (fin (startOf l) (nBits w k))) h * 2 ^ k + valL (nBits (run l w) k) := by
  rw [run_sta0 l h h0 h1, run_stepsOf]
theorem run_split_iff (l l' : List Stp) {w : Int} (h : Int) {k : Nat} (h0 : 0 ≤ w) (h1 : w < 2 ^ k) : run l (w + 2 ^ k * h) = run l' (w + 2 ^ k * h) ↔ valL (nBits (run l w) k) = valL (nBits (run l' w) k) ∧ run (stepsOf (fin (startOf l) (nBits w k))) h = run (stepsOf (fin (startOf l') (nBits w k))) h := by
  rw [run_split l h h0 h1, run_split l' h h0 h1]
  have b1 := valL_lt (nBits (run l w) k) (nBits_01 _ _)
  have b2 := valL_lt (nBits (run l' w) k) (nBits_01 _ _)
  rw [nBits_len] at b1 b2
  have pp : (0 : Int) < 2 ^ k := Int.pow_pos (by decide)
  generalize (2 : Int) ^ k = q at *
  generalize run (stepsOf (fin (startOf l) (nBits w k))) h = x
  generalize run (stepsOf (fin (startOf l') (nBits w k))) h = y
  generalize valL (nBits (run l w) k) = u at *
  generalize valL (nBits (run l' w) k) = v at *
  constructor
  · intro e
    have e1 : (x * q + u) % q = u := by rw [Int.add_comm, Int.add_mul_emod_self_right, Int.emod_eq_of_lt b1.1 b1.2]
    have e2 : (y * q + v) % q = v := by rw [Int.add_comm, Int.add_mul_emod_self_right, Int.emod_eq_of_lt b2.1 b2.2]
    have e3 : u = v := by rw [← e1, ← e2, e]
    refine ⟨e3, Int.eq_of_mul_eq_mul_right (Int.ne_of_gt pp) (by omega)⟩
  · rintro ⟨e1, e2⟩; rw [e1, e2]
/-- what a rest holds -/
theorem rest_ok {l : List Stp} {n : Nat} (hn : l.length ≤ n) (h20 : n ≤ 20) (hs : ∀ s ∈ l, s.lt 100) {k : Nat} (hk : k ≤ 200) (w : Int) : (∀ s ∈ stepsOf (fin (startOf l) (nBits w k)), s.lt 120) ∧ (stepsOf (fin (startOf l) (nBits w k))).length ≤ 2 * n + 1 := by
  refine ⟨(rest_lt (by omega) hs (by rw [nBits_len]; exact hk) (nBits_01 _ _)).1, ?_⟩
  have h1 := mgd_len (staL (fin (startOf l) (nBits w k)))
  have h2 := staL_len (fin (startOf l) (nBits w k))
  have h3 := fin_len (nBits w k) (startOf l)
  have sl := start_len l
  rw [stepsOf]; omega
end Lt
/-! repr of data with dicts in it -/
namespace Lt
open PySem PySem.Spec PyProof.Rows L2
section
variable {P : Program} {w : World} {h : Heap}
/-- what it takes to show a value -/
structure Shw (P : Program) (w : World) (h : Heap) (u : Value) (p : PyData) : Prop where
  rd : ∃ as, Reads h u p as
  un : ∃ bs, ReadAtMost h p.depth bs ∧ ReprK P w bs h p.depth u p.shown
  top : ∀ (A : Around) (E : Value → Shared → Prop) (s : Shared) (Q : Value → Shared → Prop), A.guards = some [] → A.units + p.depth + 1 < cLine → (∀ b o, h.get? b = some o → s.heap.get? b = some o) →
    (∀ h' t k, (∀ b o, s.heap.get? b = some o → h'.get? b = some o) → Q (.str p.shown t) { s with heap := h', toks := k }) → wpAny (model P w) A (call (.builtin "repr") [u]) Q E s
structure Shws (P : Program) (w : World) (h : Heap) (us : List Value) (ps : List PyData) : Prop where
  rd : ∃ as, ReadsAll h us ps as
  un : ∃ bs, ReadAtMost h (PyData.depthAll ps) bs ∧ ReprAllK P w bs h (PyData.depthAll ps) us (PyData.shownAll ps)
theorem Shws.nil : Shws P w h [] [] :=
  ⟨⟨_, .nil⟩, [], (fun _ z => by cases z), by simp only [PyData.shownAll]; exact .nil⟩
theorem Shws.cons {u : Value} {us : List Value} {p : PyData} {ps : List PyData} (a : Shw P w h u p) (b : Shws P w h us ps) : Shws P w h (u :: us) (p :: ps) := by
  obtain ⟨⟨a1, ra⟩, ⟨c1, m1, k1⟩, _⟩ := a
  obtain ⟨⟨a2, rb⟩, ⟨c2, m2, k2⟩⟩ := b
  have d1 : p.depth ≤ PyData.depthAll (p :: ps) := by simp only [PyData.depthAll]; exact Nat.le_max_left ..
  have d2 : PyData.depthAll ps ≤ PyData.depthAll (p :: ps) := by simp only [PyData.depthAll]; exact Nat.le_max_right ..
  refine ⟨⟨_, .cons ra rb⟩, c1 ++ c2, (m1.mono d1).append (m2.mono d2), ?_⟩
  simp only [PyData.shownAll]
  refine ReprAllK.cons ?_ ?_
  · exact (k1.more fun x z => List.mem_append.mpr (.inl z)).level_le d1
  · exact k2.more_le (fun x z => List.mem_append.mpr (.inr z)) d2
theorem Shw.flat {u : Value} {p : PyData} (r : Reads h u p []) (i : ReprIs P w u p.shown)
    (t : ∀ (A : Around) (E : Value → Shared → Prop) (s : Shared) (Q : Value → Shared → Prop), (∀ t k, Q (.str p.shown t) { s with toks := k }) → wpAny (model P w) A (call (.builtin "repr") [u]) Q E s) : Shw P w h u p :=
  ⟨⟨_, r⟩, ⟨[], (fun _ z => by cases z), .of_is i _ _ _⟩, fun A E s Q _ _ _ q => t A E s Q fun t k => q s.heap t k fun _ _ e => e⟩
theorem Shw.non : Shw P w h .none .none := by
  refine .flat .none ?_ fun A E s Q q => ?_
  · simp only [PyData.shown]; exact .none
  · exact PySem.P.repr_of_none (by have := q s.toks (s.toks + 1); simpa only [PyData.shown] using this)
theorem Shw.bl (b : Bool) : Shw P w h (.bool b) (.bool b) := by
  refine .flat (.bool b) ?_ fun A E s Q q => ?_
  · simp only [PyData.shown]; exact .bool b
  · exact PySem.P.repr_of_bool (by have := q s.toks (s.toks + 1); simpa only [PyData.shown] using this)
theorem Shw.int {i : Int} {t : Tok} (hs : (PyData.int i).showable = true) : Shw P w h (.int i t) (.int i) := by
  refine .flat (.int i t) ?_ fun A E s Q q => ?_
  · simp only [PyData.shown]; exact .int t (by simpa [PyData.showable] using hs)
  · exact PySem.P.repr_of_int (by simpa [PyData.showable] using hs) (by have := q s.toks (s.toks + 1); simpa only [PyData.shown] using this)
theorem Shw.str {x : Str} {t : Tok} (hz : (PyData.str x).shown.length ≤ sizeLine) : Shw P w h (.str x t) (.str x) := by
  refine .flat (.str x t) ?_ fun A E s Q q => ?_
  · simp only [PyData.shown]; exact .str x t (by simpa only [PyData.shown] using hz)
  · exact PySem.P.repr_of_str (by have := q s.toks (s.toks + 1); simpa only [PyData.shown] using this) (by simpa only [PyData.shown] using hz)
theorem clearNil : ∀ (as : List PySem.Addr), ∀ b ∈ as, Clear [] b := fun _ b _ => Clear.nil b
theorem Shw.lst {a : PySem.Addr} {o : Obj} {vs : List Value} {n : Nat} {ps : List PyData} (e1 : h.get? a = some o) (e2 : o.cls = .type "list") (e3 : o.data = .seq vs.toArray n) (s : Shws P w h vs ps) (hz : (PyData.list ps).shown.length ≤ sizeLine) : Shw P w h (.ref a) (.list ps) := by
  obtain ⟨⟨as, ra⟩, bs, mb, kb⟩ := s
  have r : Reads h (.ref a) (.list ps) (a :: as) := .list e1 e2 e3 (by simpa using ra)
  have na : a ∉ bs := not_mem_of_deeper r (n := PyData.depthAll ps) (by simp only [PyData.depth]; omega) mb
  have ed : (PyData.list ps).depth = PyData.depthAll ps + 1 := by simp only [PyData.depth]
  have hz' : (listText (PyData.shownAll ps)).length ≤ sizeLine := by simpa only [PyData.shown] using hz
  have es : (PyData.list ps).shown = listText (PyData.shownAll ps) := by simp only [PyData.shown]
  cases vs with
  | nil =>
    cases ra
    refine ⟨⟨_, r⟩, ⟨a :: bs, ReadAtMost.cons r (by rw [ed]; exact Nat.le_succ _) mb, ?_⟩, fun A E s Q hg hu hk q => ?_⟩
    · rw [es]
      simp only [PyData.shownAll, listText_nil]
      exact (ReprK.listEmpty (as := bs) e1 e2 e3).more (fun x z => List.mem_cons_of_mem _ z)
    · rw [es] at q
      simp only [PyData.shownAll, listText_nil] at q
      exact call_repr_slot (by omega) ⟨o, hk _ _ e1, e2⟩ F.slot_list_repr.toG (call_list_repr_empty ⟨o, hk _ _ e1, e2⟩ (hk _ _ e1) e3 ⟨_, _, rfl, q s.heap _ _ fun _ _ e => e⟩)
  | cons x l =>
    have kl : (PyData.shownAll ps).length = (x :: l).toArray.size := by simpa using kb.length_eq
    have ki : ∀ (i : Nat) (y : Value), (x :: l).toArray[i]? = some y → ∃ t, (PyData.shownAll ps)[i]? = some t ∧ ReprK P w bs h (PyData.depthAll ps) y t := fun i y e => kb.item i y (by simpa using e)
    refine ⟨⟨_, r⟩, ⟨a :: bs, ReadAtMost.cons r (by rw [ed]; exact Nat.le_succ _) mb, ?_⟩, fun A E s Q hg hu hk q => ?_⟩
    · rw [es, ed]
      exact ReprK.list e1 e2 e3 na kl ki
    · rw [es] at q
      rw [ed] at hu
      exact call_repr_slot (by omega) ⟨o, hk _ _ e1, e2⟩ F.slot_list_repr.toG (call_list_reprK (A := A.in1) e1 e2 e3 na kl ki hg (clearNil _) (by show A.units + 1 + _ < cLine; omega) hk (fun h' u k z => ⟨_, _, rfl, q h' u k z⟩) hz')
theorem Shw.tup {a : PySem.Addr} {o : Obj} {vs : List Value} {n : Nat} {ps : List PyData} (e1 : h.get? a = some o) (e2 : o.cls = .type "tuple") (e3 : o.data = .seq vs.toArray n) (s : Shws P w h vs ps) (hz : (PyData.tuple ps).shown.length ≤ sizeLine) : Shw P w h (.ref a) (.tuple ps) := by
  obtain ⟨⟨as, ra⟩, bs, mb, kb⟩ := s
  have r : Reads h (.ref a) (.tuple ps) as := .tuple e1 e2 e3 (by simpa using ra)
  have na : a ∉ bs := not_mem_of_deeper r (n := PyData.depthAll ps) (by simp only [PyData.depth]; omega) mb
  have ed : (PyData.tuple ps).depth = PyData.depthAll ps + 1 := by simp only [PyData.depth]
  have hz' : (tupleText (PyData.shownAll ps)).length ≤ sizeLine := by simpa only [PyData.shown] using hz
  have es : (PyData.tuple ps).shown = tupleText (PyData.shownAll ps) := by simp only [PyData.shown]
  have kb' : ReprAllK P w bs h (PyData.depthAll ps) vs.toArray.toList (PyData.shownAll ps) := by simpa using kb
  refine ⟨⟨_, r⟩, ⟨a :: bs, ReadAtMost.cons r (by rw [ed]; exact Nat.le_succ _) mb, ?_⟩, fun A E s Q hg hu hk q => ?_⟩
  · rw [es, ed]
    exact ReprK.tuple e1 e2 e3 na kb'
  · rw [es] at q
    rw [ed] at hu
    exact call_repr_slot (by omega) ⟨o, hk _ _ e1, e2⟩ F.slot_tuple_repr (call_tuple_reprK (A := A.in1) e1 e2 e3 na kb' hg (clearNil _) (by show A.units + 1 + _ < cLine; omega) hk (fun h' u k z => ⟨_, _, rfl, q h' u k z⟩) hz')
theorem Shw.dct {a : PySem.Addr} {o : Obj} {es : Array DictEntry} {n : Nat} {kvs : List (PyData × PyData)} (e1 : h.get? a = some o) (e2 : o.cls = .type "dict") (e3 : o.data = .dict es n) (hs : (a == sysModules) = false)
    (sk : Shws P w h (es.toList.map (·.key)) (kvs.map (·.1))) (sv : Shws P w h (es.toList.map (·.val)) (kvs.map (·.2))) (hz : (PyData.dict kvs).shown.length ≤ sizeLine) : Shw P w h (.ref a) (.dict kvs) := by
  obtain ⟨⟨as, ra⟩, bs, mb, kb⟩ := sk
  obtain ⟨⟨cs, rc⟩, ds, md, kd⟩ := sv
  have r := Reads.dict e1 e2 e3 ra rc
  have hb := (mb.mono (PyData.depthAll_keys_le kvs)).append (md.mono (PyData.depthAll_vals_le kvs))
  have ed : (PyData.dict kvs).depth = PyData.depthKv kvs + 1 := by simp only [PyData.depth]
  have na := not_mem_of_deeper r (by rw [ed]; exact Nat.lt_succ_self _) hb
  have et : (PyData.dict kvs).shown = dictText (List.zipWith (fun k v : Str => k ++ ": " ++ v) (PyData.shownAll (kvs.map (·.1))) (PyData.shownAll (kvs.map (·.2)))) := by simp only [PyData.shown, PyData.shownKv_eq]
  have hz' := hz
  rw [et] at hz'
  have en := ReprEntriesK.of_two es.toList _ _ (kb.more_le (fun x z => List.mem_append.mpr (.inl z)) (PyData.depthAll_keys_le kvs)) (kd.more_le (fun x z => List.mem_append.mpr (.inr z)) (PyData.depthAll_vals_le kvs))
  refine ⟨⟨_, r⟩, ⟨a :: (bs ++ ds), ReadAtMost.cons r (by rw [ed]; exact Nat.le_succ _) hb, ?_⟩, fun A E s Q hg hu hk q => ?_⟩
  · rw [et, ed]
    exact ReprK.dict e1 e2 e3 hs na en
  · rw [et] at q
    rw [ed] at hu
    exact call_repr_slot (by omega) ⟨o, hk _ _ e1, e2⟩ F.slot_dict_repr (call_dict_reprK (A := A.in1) e1 e2 e3 hs na en hg (clearNil _) (by show A.units + 1 + _ < cLine; omega) hk (fun h' u k z => ⟨_, _, rfl, q h' u k z⟩) hz')
end
section
variable {X : Cx} {M0 : Wd} {H0 : Hp} {K : PySem.W.Frag} {M : Wd} {H : Hp}
def keyP : Key → PyData
  | .inl i => .int i
  | .inr x => .str x
mutual
/-- what a value shows, dicts as well -/
def px (M : Mp) : D → Option PyData
  | .non => some .none
  | .bl b => some (.bool b)
  | .int i => some (.int i)
  | .str x => some (.str x)
  | .tup ds => (pxs M ds).map .tuple
  | .lst ds => (pxs M ds).map .list
  | .dct ks vs => (pxs M vs).map fun ps => .dict ((ks.map keyP).zip ps)
  | _ => none
def pxs (M : Mp) : List D → Option (List PyData)
  | [] => some []
  | d :: ds => (px M d).bind fun p => (pxs M ds).map fun ps => p :: ps
end
theorem px_list_le {ps : List PyData} {p : PyData} (h : p ∈ ps) : p.shown.length ≤ (PyData.list ps).shown.length := by
  simp only [PyData.shown]
  refine listText_mem_le ?_
  induction ps with
  | nil => cases h
  | cons q ps ih =>
    simp only [PyData.shownAll]
    rcases List.mem_cons.mp h with rfl | h
    · exact List.mem_cons_self
    · exact List.mem_cons_of_mem _ (ih h)
theorem px_tup_le {ps : List PyData} {p : PyData} (h : p ∈ ps) : p.shown.length ≤ (PyData.tuple ps).shown.length := by
  simp only [PyData.shown]
  refine tupleText_mem_le ?_
  induction ps with
  | nil => cases h
  | cons q ps ih =>
    simp only [PyData.shownAll]
    rcases List.mem_cons.mp h with rfl | h
    · exact List.mem_cons_self
    · exact List.mem_cons_of_mem _ (ih h)
theorem shown_mem {ps : List PyData} {p : PyData} (h : p ∈ ps) : p.shown ∈ PyData.shownAll ps := by
  induction ps with
  | nil => cases h
  | cons q ps ih =>
    simp only [PyData.shownAll]
    rcases List.mem_cons.mp h with rfl | h
    · exact List.mem_cons_self
    · exact List.mem_cons_of_mem _ (ih h)
theorem showAll_mem {ps : List PyData} (h : PyData.showableAll ps = true) : ∀ p ∈ ps, p.showable = true := by
  induction ps with
  | nil => exact fun p z => by cases z
  | cons q ps ih =>
    intro p hp
    simp only [PyData.showableAll, Bool.and_eq_true] at h
    rcases List.mem_cons.mp hp with rfl | hp
    · exact h.1
    · exact ih h.2 p hp
theorem map_zip1 : ∀ {a b : List PyData}, a.length = b.length → (a.zip b).map (·.1) = a ∧ (a.zip b).map (·.2) = b
  | [], [], _ => ⟨rfl, rfl⟩
  | [], _ :: _, h => by simp at h
  | _ :: _, [], h => by simp at h
  | x :: a, y :: b, h => by
    have := map_zip1 (a := a) (b := b) (by simpa using h)
    exact ⟨by rw [List.zip_cons_cons, List.map_cons, this.1], by rw [List.zip_cons_cons, List.map_cons, this.2]⟩
/-- the entries of a dict of numbers and texts -/
theorem dk_shw {P : Program} {w : World} {h : Heap} : ∀ {ks : List Key} {xs : List V} {vs : List (Key × Value)} {es : List DictEntry}, xs.length = ks.length → KV (ks.zip xs) vs → Pairs (mixKind P w) es vs →
    (∀ k ∈ ks, (keyP k).showable = true ∧ (keyP k).shown.length ≤ sizeLine) → Shws P w h (es.map (·.key)) (ks.map keyP) ∧ Vals xs (es.map (·.val))
  | [], [], vs, es, _, hk, hp, _ => by
    cases hk
    cases hp
    exact ⟨.nil, .nil⟩
  | [], _ :: _, _, _, hl, _, _, _ => by simp at hl
  | _ :: _, [], _, _, hl, _, _, _ => by simp at hl
  | k :: ks, x :: xs, vs, es, hl, hk, hp, hs => by
    rw [List.zip_cons_cons] at hk
    cases hk with
    | cons h1 h2 =>
      rename_i q vs
      cases hp with
      | cons g1 g2 g3 =>
        rename_i e es
        obtain ⟨ek, ev⟩ := h1
        obtain ⟨a, b⟩ := dk_shw (h := h) (by simpa using hl) h2 g3 fun k hk => hs k (List.mem_cons_of_mem _ hk)
        have hk0 := hs k List.mem_cons_self
        have sh : Shw P w h e.key (keyP k) := by
          have ek : k = q.1 := ek
          have g1 : keyIs q.1 e.key = true := g1
          rw [← ek] at g1
          rcases keyIs_shape g1 with ⟨i, t, rfl, e1⟩ | ⟨x, t, rfl, e1⟩
          · rw [e1]; exact .int hk0.1
          · rw [e1]; exact .str hk0.2
        refine ⟨.cons sh a, .cons ?_ b⟩
        show L2.RelV x e.val
        rw [g2]; exact ev
theorem pxs_len {m : Mp} : ∀ {ds : List D} {ps : List PyData}, pxs m ds = some ps → ps.length = ds.length
  | [], ps, h => by unfold pxs at h; cases h; rfl
  | d :: ds, ps, h => by
    unfold pxs at h
    cases e : px m d with
    | none => rw [e] at h; cases h
    | some p =>
      cases e2 : pxs m ds with
      | none => rw [e, e2] at h; cases h
      | some qs => rw [e, e2] at h; cases h; rw [List.length_cons, List.length_cons, pxs_len e2]
mutual
theorem px_shw {pins : List (PySem.Addr × Obj)} {σ : L2.St} {s : Shared} {m : Mp} (I : Inv X pins σ H s) (rm : RelM X.K M H) : ∀ {v : V} {u : Value} {d : D} {p : PyData}, Rep X.K M H v d → RelV v u → px m d = some p → p.showable = true → p.shown.length ≤ sizeLine → Shw X.prog X.w s.heap u p
  | v, u, .non, p, r, ru, h, hs, hz => by
    rw [Rep.non_iff] at r; unfold px at h; cases h; subst r; cases ru; exact .non
  | v, u, .bl b, p, r, ru, h, hs, hz => by
    rw [Rep.bl_iff] at r; unfold px at h; cases h; subst r; cases ru; exact .bl b
  | v, u, .int i, p, r, ru, h, hs, hz => by
    rw [Rep.int_iff] at r; unfold px at h; cases h; subst r; obtain ⟨t, rfl⟩ := ru; exact .int hs
  | v, u, .str x, p, r, ru, h, hs, hz => by
    rw [Rep.str_iff] at r; unfold px at h; cases h; subst r; obtain ⟨t, rfl⟩ := ru; exact .str hz
  | v, u, .tup ds, p, r, ru, h, hs, hz => by
    obtain ⟨a, xs, rfl, ha, r⟩ := Rep.tup_iff.mp r
    obtain rfl : u = Value.ref a := ru
    unfold px at h
    cases e : pxs m ds with
    | none => rw [e] at h; cases h
    | some ps =>
      rw [e] at h; cases h
      obtain ⟨its, rv, ⟨o, ho, hc, n, hd⟩, _⟩ := I.tuple ha.sq
      refine .tup ho hc hd (pxs_shw I rm r rv e (fun p hp => showAll_mem (by simpa [PyData.showable] using hs) p hp) fun p hp => Nat.le_trans (px_tup_le hp) hz) hz
  | v, u, .lst ds, p, r, ru, h, hs, hz => by
    obtain ⟨a, xs, rfl, ha, r⟩ := Rep.lst_iff.mp r
    obtain rfl : u = Value.ref a := ru
    unfold px at h
    cases e : pxs m ds with
    | none => rw [e] at h; cases h
    | some ps =>
      rw [e] at h; cases h
      obtain ⟨its, rv, ⟨o, n, ho, hc, _, hd⟩, _⟩ := I.list ha.sq
      refine .lst ho hc hd (pxs_shw I rm r rv e (fun p hp => showAll_mem (by simpa [PyData.showable] using hs) p hp) fun p hp => Nat.le_trans (px_list_le hp) hz) hz
  | v, u, .dct ks ds, p, r, ru, h, hs, hz => by
    obtain ⟨a, xs, rfl, ⟨_, _, ha⟩, hl, r⟩ := Rep.dct_iff.mp r
    obtain rfl : u = Value.ref a := ru
    unfold px at h
    cases e : pxs m ds with
    | none => rw [e] at h; cases h
    | some ps =>
      rw [e] at h; cases h
      obtain ⟨z, hsys, vs, hkv, o, es, ep, ho, hx, hd, _, hp, _⟩ := dk_of I.hok ha
      have lp : (ks.map keyP).length = ps.length := by
        have := r.len
        have := pxs_len e
        rw [List.length_map]; omega
      obtain ⟨m1, m2⟩ := map_zip1 lp
      obtain ⟨s1, s2⟩ := PyData.showableKv_split _ (by simpa [PyData.showable] using hs)
      rw [m1] at s1
      rw [m2] at s2
      have hz' : (dictText (PyData.shownKv ((ks.map keyP).zip ps))).length ≤ sizeLine := by simpa only [PyData.shown] using hz
      have kk : ∀ k ∈ ks, (keyP k).showable = true ∧ (keyP k).shown.length ≤ sizeLine := fun k hk => by
        have hm : keyP k ∈ ks.map keyP := List.mem_map_of_mem hk
        refine ⟨showAll_mem s1 _ hm, ?_⟩
        obtain ⟨q, hq, hql⟩ := PyData.shownKv_key_le ((ks.map keyP).zip ps) (keyP k).shown (by rw [m1]; exact shown_mem hm)
        exact Nat.le_trans hql (Nat.le_trans (dictText_mem_le hq) hz')
      obtain ⟨hk1, hv1⟩ := dk_shw (h := s.heap) hl hkv hp kk
      refine .dct ho hx.1 hd hsys (by rw [m1]; exact hk1) ?_ hz
      rw [m2]
      refine pxs_shw I rm r hv1 e (fun p hp => showAll_mem s2 p hp) fun p hp => ?_
      obtain ⟨q, hq, hql⟩ := PyData.shownKv_val_le ((ks.map keyP).zip ps) p.shown (by rw [m2]; exact shown_mem hp)
      exact Nat.le_trans hql (Nat.le_trans (dictText_mem_le hq) hz')
  | v, u, .scr ns, p, r, ru, h, hs, hz => by unfold px at h; cases h
  | v, u, .ref a, p, r, ru, h, hs, hz => by unfold px at h; cases h
  | v, u, .dcl _ _, p, r, ru, h, hs, hz => by unfold px at h; cases h
  | v, u, .dn _ _ _, p, r, ru, h, hs, hz => by unfold px at h; cases h
  | v, u, .ty _, p, r, ru, h, hs, hz => by unfold px at h; cases h
theorem pxs_shw {pins : List (PySem.Addr × Obj)} {σ : L2.St} {s : Shared} {m : Mp} (I : Inv X pins σ H s) (rm : RelM X.K M H) : ∀ {vs : List V} {us : List Value} {ds : List D} {ps : List PyData}, Reps X.K M H vs ds → Vals vs us → pxs m ds = some ps → (∀ p ∈ ps, p.showable = true) → (∀ p ∈ ps, p.shown.length ≤ sizeLine) → Shws X.prog X.w s.heap us ps
  | [], us, [], ps, r, ru, h, hs, hz => by unfold pxs at h; cases h; cases ru; exact .nil
  | [], _, _ :: _, _, r, _, _, _, _ => by unfold Reps at r; exact r.elim
  | _ :: _, _, [], _, r, _, _, _, _ => by unfold Reps at r; exact r.elim
  | v :: vs, us, d :: ds, ps, r, ru, h, hs, hz => by
    unfold Reps at r
    unfold pxs at h
    cases e : px m d with
    | none => rw [e] at h; cases h
    | some p =>
      cases e2 : pxs m ds with
      | none => rw [e, e2] at h; cases h
      | some qs =>
        rw [e, e2] at h; cases h
        cases ru with
        | cons r1 r2 => exact .cons (px_shw I rm r.1 r1 e (hs p List.mem_cons_self) (hz p List.mem_cons_self)) (pxs_shw I rm r.2 r2 e2 (fun q hq => hs q (List.mem_cons_of_mem _ hq)) fun q hq => hz q (List.mem_cons_of_mem _ hq))
end
/-- .. a list of ours too -/
def pxT (M : Mp) : D → Option PyData
  | .ref a => match M a with
    | some (.lst ds) => (pxs M ds).map .list
    | _ => none
  | d => px M d
def okShow (p : PyData) : Prop := p.showable = true ∧ p.depth ≤ 60 ∧ p.shown.length ≤ sizeLine
def cShow : List D → Mp → DK → Prop := fun xs M Q => match xs with | [x] => ∃ p, pxT M x = some p ∧ okShow p ∧ Q (.str p.shown) M | _ => False
theorem call_show (hgd : X.A.guards = some []) (hu : X.A.units + 80 < cLine) : CallR X (.builtin "repr") (fun xs H Q => ∃ (x : V) (d : D) (p : PyData) (M : Wd), xs = [x] ∧ RelM X.K M H ∧ Rep X.K M H x d ∧ pxT M.m d = some p ∧ okShow p ∧ Q (.str p.shown) H) := by
  intro pins s σ H xs us Q I r h
  obtain ⟨x, d, p, M, rfl, rm, rd, e, ⟨h1, h2, h3⟩, q⟩ := h
  obtain ⟨u, rfl, rx⟩ := vals1 r
  have sh : Shw X.prog X.w s.heap u p := by
    unfold pxT at e
    split at e
    · rw [Rep.ref_iff] at rd
      subst rd
      obtain rfl := (show u = Value.ref _ from rx)
      split at e
      · rename_i a ds em
        obtain ⟨vs, eh, r⟩ := rm.o _ _ em
        cases e2 : pxs M.m ds with
        | none => rw [e2] at e; cases e
        | some ps =>
          rw [e2] at e; cases e
          obtain ⟨its, rv, ⟨o, n, ho, hc, _, hd⟩, _⟩ := I.list (SqL.of eh)
          exact .lst ho hc hd (pxs_shw I rm r rv e2 (fun p hp => showAll_mem (by simpa [PyData.showable] using h1) p hp) fun p hp => Nat.le_trans (px_list_le hp) h3) h3
      · cases e
    · exact px_shw I rm rd rx e h1 h3
  exact sh.top X.A _ s _ hgd (by omega) (fun _ _ z => z) fun h' t k z => ⟨.str _, H, I.kept z, ⟨_, rfl⟩, q⟩
theorem c_show (hgd : X.A.guards = some []) (hu : X.A.units + 80 < cLine) : CallD X (.builtin "repr") cShow := by
  refine ⟨_, call_show hgd hu, fun xs M H Q' Q vs rm rr q hq => ?_⟩
  unfold cShow at q
  split at q
  · obtain ⟨v, rfl, r⟩ := rep1 rr
    obtain ⟨p, e, ok, q⟩ := q
    exact ⟨v, _, p, M, rfl, rm, r, e, ok, hq _ M _ _ q .refl rm (Rep.str_iff.mpr rfl)⟩
  · exact q.elim
end
end Lt
/-! a list and the empty list: ==, != -/
namespace Lt
open PySem PySem.Spec PyProof.Rows L2
section
variable {X : Cx} {M0 : Wd} {H0 : Hp} {K : PySem.W.Frag} {M : Wd} {H : Hp}
def rNilL (K : PySem.W.Frag) (neg : Bool) : R2 := fun x y H Q => ∃ a b xs ys, x = .ref a ∧ y = .ref b ∧ SqL K H a xs ∧ SqL K H b ys ∧ (xs = [] ∨ ys = []) ∧ Q (.bl (neg != (xs.isEmpty && ys.isEmpty))) H
theorem op_eqNil (hu : X.A.units + 64 < cLine) : OpR X (compareOp .Eq) (rNilL X.K false) := by
  intro pins s σ H x y v u Q I rx ry h
  obtain ⟨a, b, xs, ys, rfl, rfl, ha, hb, hn, q⟩ := h
  cases (show v = Value.ref a from rx)
  cases (show u = Value.ref b from ry)
  obtain ⟨us, r1, p1, _⟩ := I.list ha
  obtain ⟨ws, r2, p2, _⟩ := I.list hb
  have l1 := r1.length
  have l2 := r2.length
  by_cases z : us.toArray.size = ws.toArray.size
  · have e1 : xs = [] := by
      rw [List.size_toArray, List.size_toArray] at z
      rcases hn with h | h
      · exact h
      · rw [h] at l2; exact List.length_eq_zero_iff.mp (by rw [l1, z, ← l2]; rfl)
    have e2 : ys = [] := by
      rw [List.size_toArray, List.size_toArray] at z
      rcases hn with h | h
      · rw [h] at l1; exact List.length_eq_zero_iff.mp (by rw [l2, ← z, ← l1]; rfl)
      · exact h
    subst e1 e2
    cases r1
    cases r2
    exact SeqAt.RcAt.lists p1.isList p2.isList z (by omega) (e := fun _ => true) (fun j h1 h2 => by simp at h1) X.prog X.w _ _ ⟨.bl true, H, I, rfl, q⟩
  · have ee : (xs.isEmpty && ys.isEmpty) = false := by
      refine Bool.eq_false_iff.mpr fun y => z ?_
      rw [Bool.and_eq_true, List.isEmpty_iff, List.isEmpty_iff] at y
      rw [y.1] at l1
      rw [y.2] at l2
      rw [List.size_toArray, List.size_toArray, ← l1, ← l2]
    rw [ee] at q
    exact SeqAt.RcAt.lists_lengths p1.isList p2.isList (by simpa using z) (by omega) X.prog X.w _ _ ⟨.bl false, H, I, rfl, q⟩
theorem op_neNil (hu : X.A.units + 64 < cLine) : OpR X (compareOp .NotEq) (rNilL X.K true) := by
  intro pins s σ H x y v u Q I rx ry h
  obtain ⟨a, b, xs, ys, rfl, rfl, ha, hb, hn, q⟩ := h
  cases (show v = Value.ref a from rx)
  cases (show u = Value.ref b from ry)
  obtain ⟨us, r1, p1, _⟩ := I.list ha
  obtain ⟨ws, r2, p2, _⟩ := I.list hb
  have l1 := r1.length
  have l2 := r2.length
  by_cases z : us.toArray.size = ws.toArray.size
  · have e1 : xs = [] := by
      rw [List.size_toArray, List.size_toArray] at z
      rcases hn with h | h
      · exact h
      · rw [h] at l2; exact List.length_eq_zero_iff.mp (by rw [l1, z, ← l2]; rfl)
    have e2 : ys = [] := by
      rw [List.size_toArray, List.size_toArray] at z
      rcases hn with h | h
      · rw [h] at l1; exact List.length_eq_zero_iff.mp (by rw [l2, ← z, ← l1]; rfl)
      · exact h
    subst e1 e2
    cases r1
    cases r2
    exact SeqAt.RcNeAt.lists p1.isList p2.isList z (by omega) (e := fun _ => true) (fun j h1 h2 => by simp at h1) X.prog X.w _ _ ⟨.bl false, H, I, rfl, q⟩
  · have ee : (xs.isEmpty && ys.isEmpty) = false := by
      refine Bool.eq_false_iff.mpr fun y => z ?_
      rw [Bool.and_eq_true, List.isEmpty_iff, List.isEmpty_iff] at y
      rw [y.1] at l1
      rw [y.2] at l2
      rw [List.size_toArray, List.size_toArray, ← l1, ← l2]
    rw [ee] at q
    exact SeqAt.RcNeAt.lists_lengths p1.isList p2.isList (by simpa using z) (by omega) X.prog X.w _ _ ⟨.bl true, H, I, rfl, q⟩
def lstD (M : Mp) : D → Option (List D)
  | .lst xs => some xs
  | .ref a => match M a with
    | some (.lst xs) => some xs
    | _ => none
  | _ => none
theorem lstD_sq {v : V} {d : D} {xs : List D} (rm : RelM K M H) (r : Rep K M H v d) (h : lstD M.m d = some xs) : ∃ a vs, v = .ref a ∧ SqL K H a vs ∧ (xs = [] → vs = []) ∧ (vs.isEmpty = xs.isEmpty) := by
  have fin : ∀ {vs : List V}, Reps K M H vs xs → (xs = [] → vs = []) ∧ (vs.isEmpty = xs.isEmpty) := fun {vs} r => by
    cases vs with
    | nil =>
      cases xs with
      | nil => exact ⟨fun _ => rfl, rfl⟩
      | cons x xs => unfold Reps at r; exact r.elim
    | cons v vs =>
      cases xs with
      | nil => unfold Reps at r; exact r.elim
      | cons x xs => exact ⟨fun z => (by cases z), rfl⟩
  unfold lstD at h
  split at h
  · cases h
    obtain ⟨a, vs, rfl, ha, r⟩ := Rep.lst_iff.mp r
    exact ⟨a, vs, rfl, ha.sq, fin r⟩
  · rw [Rep.ref_iff] at r
    subst r
    split at h
    · rename_i a ds e
      cases h
      obtain ⟨vs, eh, r⟩ := rm.o _ _ e
      exact ⟨_, vs, rfl, SqL.of eh, fin r⟩
    · cases h
  · cases h
/-- a list and the empty one -/
def rEqL (neg : Bool) : DR := fun x y M Q => ∃ xs, lstD M x = some xs ∧ y = .lst [] ∧ Q (.bl (neg != xs.isEmpty)) M
theorem o_eqL (hu : X.A.units + 64 < cLine) : OpD X (compareOp .Eq) (rEqL false) := by
  refine ⟨_, op_eqNil hu, fun x y M H Q' Q u v rm ru rv q hq => ?_⟩
  obtain ⟨xs, e, rfl, q⟩ := q
  obtain ⟨a, vs, rfl, ha, _, hi⟩ := lstD_sq rm ru e
  obtain ⟨b, us, rfl, hb, hn, _⟩ := lstD_sq rm rv (xs := []) rfl
  obtain rfl := hn rfl
  refine ⟨a, b, vs, [], rfl, rfl, ha, hb, .inr rfl, hq _ M _ _ q .refl rm (Rep.bl_iff.mpr ?_)⟩
  rw [hi]; simp
theorem o_neL (hu : X.A.units + 64 < cLine) : OpD X (compareOp .NotEq) (rEqL true) := by
  refine ⟨_, op_neNil hu, fun x y M H Q' Q u v rm ru rv q hq => ?_⟩
  obtain ⟨xs, e, rfl, q⟩ := q
  obtain ⟨a, vs, rfl, ha, _, hi⟩ := lstD_sq rm ru e
  obtain ⟨b, us, rfl, hb, hn, _⟩ := lstD_sq rm rv (xs := []) rfl
  obtain rfl := hn rfl
  refine ⟨a, b, vs, [], rfl, rfl, ha, hb, .inr rfl, hq _ M _ _ q .refl rm (Rep.bl_iff.mpr ?_)⟩
  rw [hi]; simp
end
end Lt
/-! values of any kind -/
namespace Lt
open PySem PySem.Spec PyProof.Rows L2 PySem.W
structure RpX (p : PyData) (d n : Nat) : Prop where
  sh : p.showable = true
  dp : p.depth ≤ d
  len : p.shown.length ≤ n
theorem RpOk.x {p : PyData} {d n : Nat} (h : RpOk p d n) : RpX p d n := ⟨h.sh, h.dp, h.len⟩
theorem RpX.mono {p : PyData} {d n d' n' : Nat} (h : RpX p d n) (hd : d ≤ d') (hn : n ≤ n') : RpX p d' n' := ⟨h.sh, Nat.le_trans h.dp hd, Nat.le_trans h.len hn⟩
theorem RpX.ok {p : PyData} {d n : Nat} (h : RpX p d n) (hd : d ≤ 60) (hn : n ≤ sizeLine) : okShow p := ⟨h.sh, Nat.le_trans h.dp hd, Nat.le_trans h.len hn⟩
theorem RpX.all {d n : Nat} : ∀ {xs : List PyData}, (∀ x ∈ xs, RpX x d n) → PyData.showableAll xs = true ∧ PyData.depthAll xs ≤ d ∧ piled (PyData.shownAll xs) ≤ xs.length * (n + 2)
  | [], _ => ⟨rfl, by simp [PyData.depthAll], by simp [PyData.shownAll, piled]⟩
  | x :: xs, h => by
    have h0 := h x List.mem_cons_self
    obtain ⟨h1, h2, h3⟩ := RpX.all (xs := xs) fun y hy => h y (List.mem_cons_of_mem _ hy)
    refine ⟨by simp [PyData.showableAll, h0.sh, h1], ?_, ?_⟩
    · have := h0.dp
      simp only [PyData.depthAll]
      omega
    · have := h0.len
      simp only [PyData.shownAll, List.length_cons]
      rw [piled_cons, Nat.add_mul]
      omega
theorem RpX.list {xs : List PyData} {d n : Nat} (h : ∀ x ∈ xs, RpX x d n) : RpX (.list xs) (d + 1) (xs.length * (n + 2) + 4) := by
  obtain ⟨h1, h2, h3⟩ := RpX.all h
  refine ⟨by simpa [PyData.showable] using h1, ?_, ?_⟩
  · simp only [PyData.depth]; omega
  · simp only [PyData.shown]
    exact Nat.le_trans (listText_le _) (by omega)
theorem RpX.tuple {xs : List PyData} {d n : Nat} (h : ∀ x ∈ xs, RpX x d n) : RpX (.tuple xs) (d + 1) (xs.length * (n + 2) + 4) := by
  obtain ⟨h1, h2, h3⟩ := RpX.all h
  refine ⟨by simpa [PyData.showable] using h1, ?_, ?_⟩
  · simp only [PyData.depth]; omega
  · simp only [PyData.shown]
    exact Nat.le_trans (tupleText_le _) (by omega)
/-- a value of any kind, of bounded depth and text -/
structure Any (d : D) (dp n : Nat) : Prop where
  px : ∃ p, (∀ M, px M d = some p) ∧ RpX p dp n
  ty : ∀ M, (tyD M d).isSome = true
  nr : ∀ a, d ≠ .ref a
  it : ∀ ds, d = .tup ds → ds.length ≤ 1000 ∧ ∀ x ∈ ds, (∀ M, (tyD M x).isSome = true) ∧ ∀ a, x ≠ .ref a
theorem Any.okT {d : D} {dp n : Nat} (h : Any d dp n) (M : Mp) : okT M d := ⟨h.ty M, fun ds e => ⟨Nat.le_trans (h.it ds e).1 (by decide), fun x hx => ((h.it ds e).2 x hx).1 M⟩⟩
theorem Any.mono {d : D} {dp n dp' n' : Nat} (h : Any d dp n) (hd : dp ≤ dp') (hn : n ≤ n') : Any d dp' n' :=
  ⟨let ⟨p, e, r⟩ := h.px; ⟨p, e, r.mono hd hn⟩, h.ty, h.nr, h.it⟩
theorem Any.pxT {d : D} {dp n : Nat} (h : Any d dp n) : ∃ p, (∀ M, pxT M d = some p) ∧ RpX p dp n := by
  obtain ⟨p, e, r⟩ := h.px
  refine ⟨p, fun M => ?_, r⟩
  have := e M
  cases d with
  | ref a => exact absurd rfl (h.nr a)
  | _ => exact this
theorem Any.non : Any .non 0 10 := ⟨⟨_, fun M => by rw [Lt.px], RpOk.none.x⟩, fun _ => rfl, fun _ z => (by cases z), fun _ z => by cases z⟩
theorem Any.bl (b : Bool) : Any (.bl b) 0 10 := ⟨⟨_, fun M => by rw [Lt.px], (RpOk.bool b).x⟩, fun _ => rfl, fun _ z => (by cases z), fun _ z => by cases z⟩
theorem Any.int {v : Int} (h : v.natAbs < 2 ^ 1900) : Any (.int v) 0 2000 := ⟨⟨_, fun M => by rw [Lt.px], (RpOk.int h).x⟩, fun _ => rfl, fun _ z => (by cases z), fun _ z => by cases z⟩
theorem Any.str {x : Str} {n : Nat} (h : (reprText x).length ≤ n) : Any (.str x) 0 n := ⟨⟨_, fun M => by rw [Lt.px], (RpOk.str h).x⟩, fun _ => rfl, fun _ z => (by cases z), fun _ z => by cases z⟩
theorem Any.items {dp n : Nat} : ∀ {ds : List D}, (∀ x ∈ ds, Any x dp n) → ∃ ps : List PyData, (∀ M, pxs M ds = some ps) ∧ (∀ p ∈ ps, RpX p dp n) ∧ ps.length = ds.length
  | [], _ => ⟨[], fun M => by rw [pxs], fun p z => (by cases z), rfl⟩
  | d :: ds, h => by
    obtain ⟨p, e, r⟩ := (h d List.mem_cons_self).px
    obtain ⟨ps, e2, r2, l⟩ := Any.items (ds := ds) fun x hx => h x (List.mem_cons_of_mem _ hx)
    refine ⟨p :: ps, fun M => by rw [pxs, e M, e2 M]; rfl, fun q hq => ?_, by rw [List.length_cons, List.length_cons, l]⟩
    rcases List.mem_cons.mp hq with rfl | hq
    · exact r
    · exact r2 q hq
theorem Any.tup {ds : List D} {dp n : Nat} (h : ∀ x ∈ ds, Any x dp n) (hl : ds.length ≤ 1000) : Any (.tup ds) (dp + 1) (ds.length * (n + 2) + 4) := by
  obtain ⟨ps, e, r, l⟩ := Any.items h
  exact ⟨⟨.tuple ps, fun M => by rw [Lt.px, e M]; rfl, by rw [← l]; exact .tuple r⟩, fun _ => rfl, fun _ z => (by cases z), fun ds' z => by cases z; exact ⟨hl, fun x hx => ⟨(h x hx).ty, (h x hx).nr⟩⟩⟩
theorem Any.lst {ds : List D} {dp n : Nat} (h : ∀ x ∈ ds, Any x dp n) : Any (.lst ds) (dp + 1) (ds.length * (n + 2) + 4) := by
  obtain ⟨ps, e, r, l⟩ := Any.items h
  exact ⟨⟨.list ps, fun M => by rw [Lt.px, e M]; rfl, by rw [← l]; exact .list r⟩, fun _ => rfl, fun _ z => (by cases z), fun ds' z => by cases z⟩
theorem Any.step {s : Stp} (h : s.lt 1900) : Any s.d 0 2000 := by
  cases s with
  | add k => exact .int h
  | mk m => exact Any.str (n := 2000) (by cases m <;> decide +kernel)
theorem Any.steps {l : List Stp} (h : ∀ s ∈ l, s.lt 1900) (hl : l.length ≤ 1000) : Any (stD l) 1 (l.length * 2002 + 4) := by
  have := Any.tup (ds := l.map Stp.d) (dp := 0) (n := 2000) (fun x hx => by
    obtain ⟨s, hs, rfl⟩ := List.mem_map.mp hx
    exact .step (h s hs)) (by rw [List.length_map]; exact hl)
  rwa [List.length_map] at this
theorem Any.stepsL {l : List Stp} (h : ∀ s ∈ l, s.lt 1900) : Any (.lst (l.map Stp.d)) 1 (l.length * 2002 + 4) := by
  have := Any.lst (ds := l.map Stp.d) (dp := 0) (n := 2000) (fun x hx => by
    obtain ⟨s, hs, rfl⟩ := List.mem_map.mp hx
    exact .step (h s hs))
  rwa [List.length_map] at this
theorem Any.dct0 : Any (.dct [] []) 1 10 := by
  refine ⟨⟨.dict [], fun M => by rw [Lt.px, pxs]; rfl, ⟨by decide +kernel, by simp [PyData.depth, PyData.depthKv], by simp only [PyData.shown, PyData.shownKv]; decide +kernel⟩⟩, fun _ => rfl, fun _ z => (by cases z), fun _ z => by cases z⟩
theorem Any.dct1 : Any (.dct [.inr "a"] [.int 1]) 1 20 := by
  refine ⟨⟨.dict [(.str "a", .int 1)], fun M => by rw [Lt.px, pxs, pxs, Lt.px]; rfl, ⟨by decide +kernel, by simp [PyData.depth, PyData.depthKv], by simp only [PyData.shown, PyData.shownKv]; decide +kernel⟩⟩, fun _ => rfl, fun _ z => (by cases z), fun _ z => by cases z⟩
theorem Any.one {d : D} {dp n : Nat} (h : Any d dp n) : Any (.tup [d]) (dp + 1) (n + 6) := by
  have := Any.tup (ds := [d]) (fun x hx => by rw [List.mem_singleton.mp hx]; exact h) (by simp)
  exact this.mono (Nat.le_refl _) (by simp)
theorem Any.oneL {d : D} {dp n : Nat} (h : Any d dp n) : Any (.lst [d]) (dp + 1) (n + 6) := by
  have := Any.lst (ds := [d]) (fun x hx => by rw [List.mem_singleton.mp hx]; exact h)
  exact this.mono (Nat.le_refl _) (by simp)
end Lt
/-! a generator's while, if; a dict is locked -/
namespace Lt
open PySem PySem.Spec PyProof.Rows L2 GenW
section
variable {prog : Program} {w : World} {A : PySem.Around} {Φ : End → Shared → Prop} {c : Code} {fs : List Frame} {s : Shared} {env : Env}
theorem x_while {test : Expr} {body : List Stmt} {pos : Pos} {K : Flow → Sem PySem.Fin} {J : Value → Sem PySem.Fin} {gd : Bool → Bool} {lv : List Value → List Value}
    (q : ∀ (k : Result → Sem PySem.Fin) p, (∀ f, k (.ok f) = K f) → SegX (model prog w) A Φ (.whileLoop test body [] env) ((model prog w).den (.whileLoop test body [] env)) (.ret k none (gd false) (lv []) c p [] :: fs) s) :
    SegX (model prog w) A Φ c ((exec (.While test body [] pos) env).wrap K J gd lv) fs s := by
  rw [exec_While]
  exact x_bind (wpAny_standAt (x_own q))
theorem x_whileLoop {test : Expr} {body : List Stmt}
    (q : wpAny (model prog w) (A.over (.whileLoop test body [] env) fs) (isTrue test env (eval test env)) (fun b s1 => match b with
      | false => SegX (model prog w) A Φ (.whileLoop test body [] env) (.pure (.done .next)) fs s1
      | true => ∀ J : Value → Sem PySem.Fin, SegX (model prog w) A Φ (.whileLoop test body [] env) ((execs body env).wrap (fun f => match f with
            | .next => .pure (.again (.whileLoop test body [] env))
            | .cont => .pure (.again (.whileLoop test body [] env))
            | .brk => .pure (.done .next)
            | .ret v => .pure (.done (.ret v))) J id id) fs s1) noX s) :
    SegX (model prog w) A Φ (.whileLoop test body [] env) ((model prog w).den (.whileLoop test body [] env)) fs s := by
  show SegX _ A Φ _ ((whileTurn test body [] env).onRaise (fun x => do noteFrame x env; theTreesLotGoes x)) fs s
  rw [Sem.onRaise_eq_wrap]
  unfold whileTurn
  refine x_bind (wpAny_mono q (fun b s1 q1 => ?_) fun _ _ z => z)
  cases b with
  | false => exact q1
  | true =>
    have := q1 (fun e => ((do noteFrame e env; theTreesLotGoes e : Sem Unit).bind fun _ => (.raise e : Sem PySem.Fin)))
    show SegX _ A Φ _ ((execs body env >>= fun f => _).wrap _ _ _ _) fs s1
    rw [Sem.bind_eq_wrap', Sem.wrap_wrap]
    rw [Sem.wrap_congr (execs body env) _ _ (K' := fun f => match f with
            | .next => .pure (.again (.whileLoop test body [] env))
            | .cont => .pure (.again (.whileLoop test body [] env))
            | .brk => .pure (.done .next)
            | .ret v => .pure (.done (.ret v))) (fun f => by cases f <;> rfl) (fun e => rfl)]
    exact this
theorem x_if {test : Expr} {body orelse : List Stmt} {pos : Pos} {K : Flow → Sem PySem.Fin} {J : Value → Sem PySem.Fin} {gd : Bool → Bool} {lv : List Value → List Value}
    (q : wpAny (model prog w) (A.over c fs) (isTrue test env (eval test env)) (fun b s1 => match b with
      | true => SegX (model prog w) A Φ c ((execs body env).wrap K J gd lv) fs s1
      | false => SegX (model prog w) A Φ c ((execs orelse env).wrap K J gd lv) fs s1) noX s) :
    SegX (model prog w) A Φ c ((exec (.If test body orelse pos) env).wrap K J gd lv) fs s := by
  rw [exec_If]
  refine x_bind (wpAny_standAt (x_bind (wpAny_mono q (fun b s1 q1 => ?_) fun _ _ z => z)))
  cases b with
  | true => exact q1
  | false => exact q1
end
section
variable {G : GCx} {a : Addr} {go : Obj} {out : Nat → Option D}
def tFrzN (w : World) (i : Nat) (t : DGn) : DGn := fun D n k ds M => match ds[i]? with
  | some (some (.ref a)) => ∃ ks vs, M a = some (.dn w ks vs) ∧ t D n k (ds.set i (some (.dn w ks vs))) (mrm M a)
  | _ => False
theorem xs_frzN {sts : List Stmt} {t : DGn} (i : Nat) (h : XSs G a go out sts t) : XSs G a go out sts (tFrzN G.w i t) := by
  refine ⟨fun n k wk pins gs c fs K J gd lv s σ H ds m D gp pn hh q kk => ?_⟩
  unfold tFrzN at q
  split at q
  · rename_i b e
    obtain ⟨ks, vs, hm, q⟩ := q
    obtain ⟨v, e1, r⟩ := hh.rs.get e
    rw [Rep.ref_iff] at r
    subst r
    obtain ⟨es, h1, h2, h3, h4⟩ := hh.rm.o _ _ hm
    obtain ⟨od, I1⟩ := hh.inv.lock h1 True.intro
    obtain ⟨l1, rm1, hv⟩ := lock_rel (u := .frz od (.ext (NdAt G.w b es))) hh.rm hm
    have rs' := (hh.rs.mono l1.w).set i (Rep.dn_iff.mpr ⟨b, es, rfl, ⟨mrm_same, hv, od, upd_same⟩, h2, h3.mono l1.w, h4.mono l1.w⟩ : Rep G.K ⟨mrm m b, wk.S⟩ _ (.ref b) (.dn G.w ks vs))
    rw [set_self e1] at rs'
    exact h.run n k wk pins gs c fs K J gd lv s σ _ _ (mrm m b) D gp pn ⟨hh.ok, I1, hh.le.trans l1, rm1, rs', hh.gz, hh.gk, hh.gp⟩ q fun n i wk s f z => kk n i wk s f (z.mono l1.w)
  · exact q.elim
def tIf (c : DT) (tb tu : DGn) : DGn := fun D n i ds m => c ds m fun b m1 => if b = true then tb D n i ds m1 else tu D n i ds m1
theorem xs_if {test : Expr} {body orelse : List Stmt} {pos : Pos} {tc : DT} {tb tu : DGn} (hc : ∀ sw Hw M0 H0, ET (G.x sw Hw) M0 H0 test tc) (hb : XSs G a go out body tb) (hu : XSs G a go out orelse tu) :
    XS G a go out (.If test body orelse pos) (tIf tc tb tu) := by
  refine ⟨fun n i wk pins gs c fs K J gd lv s σ H ds m D gp pn hh q kk => x_if ?_⟩
  rw [gp.over]
  refine wpAny_mono (wpAny_beside ((hc wk.s wk.H ⟨noM, wk.S⟩ wk.H).run pins (allPoison s) σ H
    (fun b H1 => ∃ m1, Le ⟨m, wk.S⟩ H ⟨m1, wk.S⟩ H1 ∧ RelM G.K ⟨m1, wk.S⟩ H1 ∧ if b = true then tb D n i ds m1 else tu D n i ds m1) (Inv.gens hh.inv rfl rfl (bare_all hh.inv.bare))
    ⟨ds, ⟨m, wk.S⟩, _, hh.le, hh.rm, hh.rs, q, fun b M' H' q l rm => ?_⟩)) (fun b s1 z => ?_) fun _ _ ⟨_, _, _, z⟩ => z
  · have eS : M'.s = wk.S := l.2
    obtain ⟨m', S'⟩ := M'
    cases eS
    exact ⟨m', l, rm, q⟩
  · obtain ⟨s0, rfl, P, H1, I1, m1, l1, rm1, q1⟩ := z
    have at1 : GAt G wk pins gs σ H1 (Ung s.gens s0) ds m1 := hh.ran P I1 l1 rm1 (hh.rs.mono l1.w)
    cases b with
    | true => exact hb.run n i wk pins gs c fs K J gd lv _ σ H1 ds m1 D gp pn at1 (uT q1) fun n i wk s f z => kk n i wk s f (z.mono l1.w)
    | false => exact hu.run n i wk pins gs c fs K J gd lv _ σ H1 ds m1 D gp pn at1 (uF q1) fun n i wk s f z => kk n i wk s f (z.mono l1.w)
def tWhileX (tc : DT) (tb : DGn) : DGn := fun D n i ds m => ∃ P : Nat → Nat → Nat → DS → Mp → Prop, (∃ k, P k n i ds m) ∧ ∀ k n i ds m, P k n i ds m →
  tc ds m fun b m1 => if b = true then tb { D with nx := fun n i ds m => ∃ k', k' < k ∧ P k' n i ds m, ct := fun n i ds m => ∃ k', k' < k ∧ P k' n i ds m, bk := D.nx } n i ds m1 else D.nx n i ds m1
theorem xs_while {test : Expr} {body : List Stmt} {pos : Pos} {tc : DT} {tb : DGn} (hc : ∀ sw Hw M0 H0, ET (G.x sw Hw) M0 H0 test tc) (hb : XSs G a go out body tb) : XS G a go out (.While test body [] pos) (tWhileX tc tb) := by
  refine ⟨fun n i wk pins gs c fs K J gd lv s σ H ds m D gp pn hh q kk => x_while fun k0 p hk => ?_⟩
  obtain ⟨P, ⟨k, hp⟩, turn⟩ := q
  have ov : G.A.over (.whileLoop test body [] G.env) (.ret k0 none (gd false) (lv []) c p [] :: fs) = G.A.deeper G.env := (over_loop rfl rfl).trans gp.over
  have gp2 : GPos G (.whileLoop test body [] G.env) (.ret k0 none (gd false) (lv []) c p [] :: fs) id := ⟨ov, by
    show (splitAtGen fs).map _ = none
    rw [gp.split]; rfl, by
    show (gd false || fs.any Frame.guarded) = false
    rw [gp.gd, gp.guard]; rfl, rfl⟩
  have loop : ∀ (k n i : Nat) (wk2 : Wk) (s : Shared) (σ2 : L2.St) (H2 : Hp) (ds2 : DS) (m2 : Mp), P k n i ds2 m2 → GAt G wk2 pins gs σ2 H2 s ds2 m2 → Lw ⟨m, wk.S⟩ H ⟨m2, wk2.S⟩ H2 →
      SegX (model G.P G.w) G.A (Phi G a go out n i wk2) (.whileLoop test body [] G.env) ((model G.P G.w).den (.whileLoop test body [] G.env)) (.ret k0 none (gd false) (lv []) c p [] :: fs) s := by
    intro k
    induction k using Nat.strongRecOn with
    | ind k ih =>
      intro n i wk2 s σ2 H2 ds2 m2 hp h lw
      refine x_whileLoop ?_
      rw [ov]
      refine wpAny_mono (wpAny_beside ((hc wk2.s wk2.H ⟨noM, wk2.S⟩ wk2.H).run pins (allPoison s) σ2 H2
        (fun b H1 => ∃ m1, Le ⟨m2, wk2.S⟩ H2 ⟨m1, wk2.S⟩ H1 ∧ RelM G.K ⟨m1, wk2.S⟩ H1 ∧ if b = true then tb { D with nx := fun n i ds m => ∃ k', k' < k ∧ P k' n i ds m, ct := fun n i ds m => ∃ k', k' < k ∧ P k' n i ds m, bk := D.nx } n i ds2 m1 else D.nx n i ds2 m1) (Inv.gens h.inv rfl rfl (bare_all h.inv.bare))
        ⟨ds2, ⟨m2, wk2.S⟩, _, h.le, h.rm, h.rs, turn k n i ds2 m2 hp, fun b M' H' q l rm => ?_⟩)) (fun b s1 z => ?_) fun _ _ ⟨_, _, _, z⟩ => z
      · have eS : M'.s = wk2.S := l.2
        obtain ⟨m', S'⟩ := M'
        cases eS
        exact ⟨m', l, rm, q⟩
      · obtain ⟨s0, rfl, P0, H1, I1, m1, l1, rm1, q1⟩ := z
        have at1 : GAt G wk2 pins gs σ2 H1 (Ung s.gens s0) ds2 m1 := h.ran P0 I1 l1 rm1 (h.rs.mono l1.w)
        have lw1 := lw.trans l1.w
        cases b with
        | false =>
          refine x_leaf (.ok .next) ?_
          rw [hk]
          exact kk n i wk2 _ .next ⟨σ2, H1, ds2, m1, at1, lw1, uF q1⟩
        | true =>
          intro J2
          refine hb.run n i wk2 pins gs _ _ _ J2 id id _ σ2 H1 ds2 m1 _ gp2 pn at1 (uT q1) fun n' i' wk3 s4 f z => ?_
          obtain ⟨σ4, H4, ds4, m4, h4, lw4, z⟩ := z
          have lw5 := lw1.trans lw4
          cases f with
          | next =>
            obtain ⟨k', hlt, z⟩ := z
            exact x_again rfl (ih k' hlt n' i' wk3 s4 σ4 H4 ds4 m4 z h4 lw5)
          | cont =>
            obtain ⟨k', hlt, z⟩ := z
            exact x_again rfl (ih k' hlt n' i' wk3 s4 σ4 H4 ds4 m4 z h4 lw5)
          | brk =>
            refine x_leaf (.ok .next) ?_
            rw [hk]
            exact kk n' i' wk3 s4 .next ⟨σ4, H4, ds4, m4, h4, lw5, z⟩
          | ret u =>
            refine x_leaf (.ok (.ret u)) ?_
            rw [hk]
            exact kk n' i' wk3 s4 (.ret u) ⟨σ4, H4, ds4, m4, h4, lw5, z⟩
  exact loop k n i wk s σ H ds m hp hh fun _ _ h1 h2 h3 => ⟨h1, h2, h3⟩
end
end Lt
/-! sum of a tuple -/
namespace Lt
open PySem PySem.Spec PyProof.Rows L2
section
variable {X : Cx} {M0 : Wd} {H0 : Hp}
def rSumT (K : PySem.W.Frag) : List V → Hp → VK → Prop := fun vs H Q => ∃ (a : Addr) (ns : List Int), vs = [V.ref a] ∧ SqT K H a (ns.map V.int) ∧ Q (.int ns.sum) H
theorem cr_sumT (hc : X.calm = true) : CallR X (.builtin "sum") (rSumT X.K) := by
  intro pins s σ H vs us Q I r h
  obtain ⟨a, ns, rfl, hs, q⟩ := h
  obtain ⟨its, rv, hl, _⟩ := I.tuple hs
  rw [Vals.ref1 r]
  have hi := rv.ints
  obtain ⟨zs, e⟩ := hi.allInts.items
  have hn : numsOf (intItems zs).toList = ns := by rw [← e]; exact hi.numsOf
  rw [nums_intItems] at hn
  subst hn
  rw [e] at hl
  refine PySem.W.ktm_sumG (I.ok.hd hc) hl fun h' tk t' hk => ⟨.int _, H, I.kept hk, ⟨_, rfl⟩, ?_⟩
  rw [preSum_eq, List.take_of_length_le (by simp)]
  exact q
def cSumT : List D → Mp → DK → Prop := fun xs M Q => match xs with | [.tup ds] => ∃ ns : List Int, ds = ns.map D.int ∧ Q (.int ns.sum) M | _ => False
theorem c_sumT (hc : X.calm = true) : CallD X (.builtin "sum") cSumT := by
  refine ⟨_, cr_sumT hc, fun xs M H Q' Q vs rm rr q hq => ?_⟩
  unfold cSumT at q
  split at q
  · obtain ⟨v, rfl, r⟩ := rep1 rr
    obtain ⟨bs, rfl, q⟩ := q
    obtain ⟨p, ys, rfl, hp, r⟩ := Rep.tup_iff.mp r
    exact ⟨p, bs, rfl, by rw [← r.ints]; exact hp.sq, hq _ M _ _ q .refl rm (Rep.int_iff.mpr rfl)⟩
  · exact q.elim
end
end Lt
/-! list(g(..)) of a generator def -/
namespace Lt
open PySem PySem.Spec PyProof.Rows L2 GenW
/-- all of a generator, as a list -/
def dListG (gsp : DGsp) (ts : DA) : DE := fun ds M Q => ts ds M fun xs M1 => ∃ (out : Nat → Option D) (ys : List D), gsp xs out ∧ (∀ i, i ≤ ys.length → out i = ys[i]?) ∧ ys.length < sizeLine ∧ Q (.lst ys) M1
section
variable {X : Cx} {M0 : Wd} {H0 : Hp}
/-- where the draining stands -/
structure DrAt (X : Cx) (G : GCx) (a g0 : Nat) (go : Obj) (out : Nat → Option D) (pins : List (Addr × Obj)) (σ : L2.St) (M1 : Wd) (H1 : Hp) (L : Addr) (acc : List D) (N : Nat) (s : Shared) : Prop where
  ex : ∃ (H : Hp) (gs : GenState) (sP : Shared) (HP : Hp) (SP : Addr → Prop), Inv X pins σ H s ∧ LcAt X.K M1 H1 L acc M1.m H ∧ s.gens[g0]? = some gs ∧ s.heap.get? a = some go ∧ Zz G a go out N acc.length gs sP HP SP ∧ Slept2 G sP HP SP s H (hidAll ⟨M1.m, hid M1.s L⟩)
structure DrOk (X : Cx) (G : GCx) (a g0 : Nat) (go : Obj) (s1 : Shared) : Prop where
  eP : G.P = X.prog
  ew : G.w = X.w
  eK : G.K = X.K
  eB : G.base = X.base
  eA : G.A = X.A.in1.in1.in1
  eo : G.outer = X.stack
  eos : G.os = s1.os
  hos : s1.os = X.s_0.os
  hna : G.n0 < a
  go : ∃ nm qn, go.cls = .type "generator" ∧ go.data = .fields #[.int g0 0, nm, qn] ∧ go.slots = #[]
  bsz : G.base.objs.size ≤ G.n0
  frf : ∀ b ∈ frs G.outer, b < G.n0
  lowL : X.env.locals < G.n0
  lowS : X.s_0.heap.objs.size ≤ G.n0
  lowC : ∀ y c, X.env.cells.lookup y = some c → c < G.n0
  eg : G.g0 = g0
theorem drainX {pins : List (Addr × Obj)} {σ : L2.St} {G : GCx} {a g0 : Nat} {go : Obj} {s1 : Shared} {out : Nat → Option D} {ys : List D} {M1 : Wd} {H1 : Hp} {L : Addr} {R : Result → Shared → Prop}
    (k : DrOk X G a g0 go s1) (lowP : ∀ p ∈ X.pn ++ pins, p.1 < G.n0) (hc : X.calm = true) (hd : X.A.depth + 9 < recursionLimit) (hL : H1 L = none) (hy : ∀ i, i ≤ ys.length → out i = ys[i]?) (hz : ys.length < sizeLine)
    (fin : ∀ H s', Inv X pins σ H s' → LcAt X.K M1 H1 L ys M1.m H → R (.ok (.ret .none)) s') :
    ∀ (r : Nat) (acc : List D) (s : Shared), acc.length + r = ys.length → acc = ys.take acc.length → DrAt X G a g0 go out pins σ M1 H1 L acc (r + 1) s →
      codeAny (model X.prog X.w) X.A.in1 (.builtin "list.extend.loop" ⟨[.ref L, .ref a, .none], []⟩) R s := by
  intro r
  induction r with
  | zero =>
    rintro acc s hl ha ⟨H, gs, sP, HP, SP, I, at_, hgs, hgo, zz, sl⟩
    obtain ⟨nm, qn, g1, g2, g3⟩ := k.go
    have ho : out acc.length = none := by rw [hy _ (by omega), List.getElem?_eq_none (by omega)]
    have ea : acc = ys := by rw [ha, List.take_of_length_le (by omega)]
    have w0 : WkOk G (s.setGen g0 .running) H (hidAll ⟨M1.m, hid M1.s L⟩) := ⟨sl.ok.os, allBare_setGen sl.ok.bare rfl, sl.ok.hok, sl.ok.bs, sl.ok.bsz, sl.ok.sz, sl.ok.funs, sl.ok.frf, sl.ok.rm, by rw [GenW.setGen_size]; exact sl.ok.gz⟩
    have u1 := zz ⟨s.setGen g0 .running, H, hidAll ⟨M1.m, hid M1.s L⟩⟩ ⟨w0, sl.own, sl.lw, fun g x h1 h2 h3 => by rw [setGen_get, if_neg (by have := k.eg; omega)]; exact sl.gn g x h1 h2 h3⟩
    rw [k.eP, k.ew, k.eA] at u1
    refine codeAny_builtin F.entry_extend_loop ?_
    rw [Around.under_plainId F.plain_extend_loop _]
    refine wpAny_bind (m := pyNext (.ref a)) (nextX (A := X.A.in1.in1) (I.ok.hd hc) I.nolimit (by show X.A.depth < _; omega) ⟨go, nm, qn, hgo, g1, g2, g3⟩ hgs u1 fun e s4 gz φ => ?_)
    cases e with
    | susp v b l k' c' p' fs' =>
      obtain ⟨_, d, _, _, h2, _⟩ := φ
      rw [ho] at h2; cases h2
    | ret res =>
      obtain ⟨h1, _, H4, si⟩ := φ
      refine ⟨h1, fun h' hk' => ?_⟩
      have all : ∀ b o, H b = some o → H4 b = some o := fun b o e => (si.le.1 b o rfl e).2
      have I4 : Inv X pins σ H4 (s4.setGen g0 .finished) := by
        refine I.call' (ch := chOf G ⟨s.setGen g0 .running, H, hidAll ⟨M1.m, hid M1.s L⟩⟩) ?_ ?_ ?_ (allBare_setGen si.bare rfl) fun b hb => ?_
        · show s4.os = s.os
          rw [si.os, k.eos, k.hos, I.os]
        · have u := si.un
          rw [k.eo] at u; exact u
        · have u := si.hok
          rw [k.eP, k.ew] at u; exact u
        · have q := of_chOf hb
          exact ⟨.inr (Nat.le_trans k.lowS q), Nat.ne_of_gt (Nat.lt_of_lt_of_le k.lowL q), fun y c e => Nat.ne_of_lt (Nat.lt_of_lt_of_le (k.lowC y c e) q), fun p hp => Nat.ne_of_lt (Nat.lt_of_lt_of_le (lowP p hp) q)⟩
      have I5 : Inv X pins σ H4 { s4.setGen g0 .finished with heap := h' } := I4.kept (t' := (s4.setGen g0 .finished).toks) hk'
      have l4 : Le ⟨M1.m, hid M1.s L⟩ H ⟨M1.m, hid M1.s L⟩ H4 := ⟨fun b o e1 e2 => ⟨e1, all b o e2⟩, rfl⟩
      have rm4 : RelM X.K ⟨M1.m, hid M1.s L⟩ H4 := by
        refine ⟨fun b o e => ?_, fun b z => ?_⟩
        · have q := at_.rm.o b o e
          refine q.mono l4.w ?_
          cases o with
          | lst xs => obtain ⟨_, h, _⟩ := q; rw [h, all b _ h]
          | ins C fs => obtain ⟨_, _, h, _⟩ := q; rw [h, all b _ h]
          | dct ks vs => obtain ⟨_, h, _⟩ := q; rw [h, all b _ h]
          | dn w ks vs => obtain ⟨_, h, _⟩ := q; rw [h, all b _ h]
        · obtain ⟨e1, o, e2⟩ := at_.rm.h b z
          exact ⟨e1, o, all b o e2⟩
      obtain ⟨_, at4⟩ := at_.step l4 rm4
      rw [ea] at at4
      exact wpAny_pure (fin H4 _ I5 at4)
  | succ r ih =>
    rintro acc s hl ha ⟨H, gs, sP, HP, SP, I, at_, hgs, hgo, zz, sl⟩
    obtain ⟨nm, qn, g1, g2, g3⟩ := k.go
    have hlt : acc.length < ys.length := by omega
    have ho : out acc.length = some ys[acc.length] := by rw [hy _ (by omega), List.getElem?_eq_getElem hlt]
    have w0 : WkOk G (s.setGen g0 .running) H (hidAll ⟨M1.m, hid M1.s L⟩) := ⟨sl.ok.os, allBare_setGen sl.ok.bare rfl, sl.ok.hok, sl.ok.bs, sl.ok.bsz, sl.ok.sz, sl.ok.funs, sl.ok.frf, sl.ok.rm, by rw [GenW.setGen_size]; exact sl.ok.gz⟩
    have u1 := zz ⟨s.setGen g0 .running, H, hidAll ⟨M1.m, hid M1.s L⟩⟩ ⟨w0, sl.own, sl.lw, fun g x h1 h2 h3 => by rw [setGen_get, if_neg (by have := k.eg; omega)]; exact sl.gn g x h1 h2 h3⟩
    rw [k.eP, k.ew, k.eA] at u1
    refine codeAny_builtin F.entry_extend_loop ?_
    rw [Around.under_plainId F.plain_extend_loop _]
    refine wpAny_bind (m := pyNext (.ref a)) (nextX (A := X.A.in1.in1) (I.ok.hd hc) I.nolimit (by show X.A.depth < _; omega) ⟨go, nm, qn, hgo, g1, g2, g3⟩ hgs u1 fun e s4 gz φ => ?_)
    cases e with
    | ret res =>
      obtain ⟨_, h2, _⟩ := φ
      rw [ho] at h2; cases h2
    | susp v b l k' c' p' fs' =>
      obtain ⟨h1, d, x', H4, h2, rv, rd, si, z2⟩ := φ
      rw [ho] at h2
      cases h2
      refine ⟨h1, ?_⟩
      have hbr : (End.susp v b l k' c' p' fs').genState.bare = true := End.bare_of_quiet h1
      generalize hgx : (End.susp v b l k' c' p' fs').genState = gs4 at hbr z2 ⊢
      have all : ∀ b o, H b = some o → H4 b = some o := fun b o e => (si.le.1 b o rfl e).2
      have I4 : Inv X pins σ H4 (s4.setGen g0 gs4) := by
        refine I.call' (ch := chOf G ⟨s.setGen g0 .running, H, hidAll ⟨M1.m, hid M1.s L⟩⟩) ?_ ?_ ?_ (allBare_setGen si.bare hbr) fun b hb => ?_
        · show s4.os = s.os
          rw [si.os, k.eos, k.hos, I.os]
        · have u := si.un
          rw [k.eo] at u; exact u
        · have u := si.hok
          rw [k.eP, k.ew] at u; exact u
        · have q := of_chOf hb
          exact ⟨.inr (Nat.le_trans k.lowS q), Nat.ne_of_gt (Nat.lt_of_lt_of_le k.lowL q), fun y c e => Nat.ne_of_lt (Nat.lt_of_lt_of_le (k.lowC y c e) q), fun p hp => Nat.ne_of_lt (Nat.lt_of_lt_of_le (lowP p hp) q)⟩
      have l4 : Le ⟨M1.m, hid M1.s L⟩ H ⟨M1.m, hid M1.s L⟩ H4 := ⟨fun b o e1 e2 => ⟨e1, all b o e2⟩, rfl⟩
      have rm4 : RelM X.K ⟨M1.m, hid M1.s L⟩ H4 := by
        refine ⟨fun b o e => ?_, fun b z => ?_⟩
        · have q := at_.rm.o b o e
          refine q.mono l4.w ?_
          cases o with
          | lst xs => obtain ⟨_, h, _⟩ := q; rw [h, all b _ h]
          | ins C fs => obtain ⟨_, _, h, _⟩ := q; rw [h, all b _ h]
          | dct ks vs => obtain ⟨_, h, _⟩ := q; rw [h, all b _ h]
          | dn w ks vs => obtain ⟨_, h, _⟩ := q; rw [h, all b _ h]
        · obtain ⟨e1, o, e2⟩ := at_.rm.h b z
          exact ⟨e1, o, all b o e2⟩
      obtain ⟨_, at4⟩ := at_.step l4 rm4
      have rd4 : Rep X.K ⟨M1.m, hid M1.s L⟩ H4 x' ys[acc.length] := by
        rw [k.eK] at rd
        exact rd.mono hidAll_back
      obtain ⟨vs, ev, el, at5⟩ := at4.add hL rd4
      obtain ⟨_, its, n, rits, hil, eits⟩ := I4.lstM ev
      have hsz : its.length < sizeLine := by omega
      have I5 := I4.lset (t' := (s4.setGen g0 gs4).toks) (f := (·.push v)) (its' := its ++ [v]) (ys := vs ++ [x']) ev eits (by simp) (rits.append (.cons rv .nil)) (by rw [List.length_append]; show vs.length + 1 ≤ _; omega)
      show wpAny _ X.A.in1.in1 (updateSeq L (·.push v) >>= _) _ _ _
      refine wpAny_bind (wpAny_updateSeq eits rfl (wpAny_pure ⟨plainId_quiet F.plain_extend_loop _, ?_⟩) (by rw [List.size_toArray]; exact Nat.le_of_lt hsz) (by show (its.toArray.push v).size ≤ _; rw [Array.size_push, List.size_toArray]; omega))
      have hgl : g0 < s4.gens.size := Nat.lt_of_lt_of_le (Array.getElem?_eq_some_iff.mp hgs).1 gz
      have heap_other : ∀ b o, b ≠ L → s4.heap.get? b = some o → (s4.heap.update L (Obj.mapSeq (·.push v))).get? b = some o := fun b o nb e => (Heap.get?_update_other s4.heap (Obj.mapSeq (·.push v)) (Ne.symm nb)).trans e
      have hL4 : ∀ b, H4 b = none → b ≠ L := fun b e z => by rw [z, ev] at e; cases e
      have hgo5 : (s4.heap.update L (Obj.mapSeq (·.push v))).get? a = some go := heap_other a go (hL4 a si.free.1) si.obj
      refine ih (acc ++ [ys[acc.length]]) _ (by rw [List.length_append]; show acc.length + 1 + r = _; omega) ?_ ⟨upd H4 L (.lst (vs ++ [x'])), gs4, s4, H4, hidAll ⟨M1.m, hid M1.s L⟩, I5, at5, setGen_at hgl, hgo5, ?_, ?_, ?_, ?_, fun g x h1 h2 _ => (by rw [setGen_get, if_neg (by have := k.eg; omega)]; exact h2 : (s4.setGen g0 gs4).gens[g]? = some x)⟩
      · rw [List.length_append]
        show _ = ys.take (acc.length + 1)
        rw [List.take_add_one, List.getElem?_eq_getElem hlt, ← ha]; rfl
      · rw [List.length_append]; exact z2
      · refine ⟨I5.os.trans (k.hos.symm.trans k.eos.symm), I5.bare, by rw [k.eP, k.ew]; exact I5.hok, fun b o e => I5.bs b o (by rw [← k.eB]; exact e), k.bsz, ?_, by rw [k.eB, k.eo]; exact I5.stack, fun b hb => ⟨I5.stkFree b (by rw [← k.eo]; exact hb), k.frf b hb⟩, by rw [k.eK]; exact hidAll_rm at5.rm, by rw [k.eg]; exact (show g0 < (s4.setGen g0 gs4).gens.size by rw [GenW.setGen_size]; exact hgl)⟩
        exact Nat.le_trans (Nat.le_of_lt k.hna) (Nat.le_of_lt (Heap.lt_size hgo5))
      · intro b o _ e1 e2 _
        have nb := hL4 b e2
        exact ⟨heap_other b o nb e1, by rw [upd_ne nb]; exact e2⟩
      · intro b o _ h2 h3
        have nb : b ≠ L := fun z => h2 (.inr (.inr z))
        exact ⟨rfl, h2, by rw [upd_ne nb]; exact h3⟩
theorem d_listG {x : Str} {k : Nat} {ps : List Str} {gsp : DGsp} {e : Expr} {es : List Expr} {ts : DA} {p p2 pos pos2 : Pos}
    (C : GenCallee X.prog X.w X.K X.mg X.base x k ps gsp) (hr : Room (k + 6) X.A) (hg : Gl X x) (hc : X.calm = true) (hgl : Gl X "list") (hml : X.mg "list" = none) (ha : EA X M0 H0 (e :: es) ts)
    (hdb : (x == ("__debug__" : Str)) = false := by decide) (he : starEach (e :: es) X.env = (false, eval e X.env) :: starEach es X.env := by rfl) (hpl : (backTo pos2 (starEach es X.env)).any (·.1) = false := by rfl)
    (hs : starEach [.Call (.Name x p2) (e :: es) [] pos2] X.env = (false, eval (.Call (.Name x p2) (e :: es) [] pos2) X.env) :: starEach [] X.env := by rfl) :
    EE X M0 H0 (.Call (.Name "list" p) [.Call (.Name x p2) (e :: es) [] pos2] [] pos) (dListG gsp ts) := by
  refine ⟨fun pins s σ H Q I h => ?_⟩
  obtain ⟨ds, M, Q', le, rm, rs, h, hq⟩ := h
  obtain ⟨f, fd, Fn, hm, hk, hbd⟩ := C.ex
  refine wpAny_Call_Name_kw (ld_blt (u := .type "list") I hgl hml (by decide +kernel) ?_ (by decide) (by decide))
  refine PyProof.Rows.callWith_type1 ?_ hs rfl
  rw [hs]
  refine Calls.spliced_cons ?_
  refine wpAny_Call_Name_kw (ld_glob I hg hm ?_ hdb)
  refine PySem.W.callWith_K (h₀ := X.base) I.ok.mod.kin hk (thn (ha.run pos2 pins s σ H (fun vs H1 => ∃ xs M1, (∃ (out : Nat → Option D) (ys : List D), gsp xs out ∧ (∀ i, i ≤ ys.length → out i = ys[i]?) ∧ ys.length < sizeLine ∧ Q' (.lst ys) M1.m) ∧ Le M H M1 H1 ∧ RelM X.K M1 H1 ∧ Reps X.K M1 H1 vs xs) I
    ⟨ds, M, _, le, rm, rs, h, fun xs M1 vs H1 q l rm1 r1 => ⟨xs, M1, q, l, rm1, r1⟩⟩) fun us s1 ⟨vs, H1, I1, r, xs, M1, ⟨out, ys, hsp, hy, hz, q⟩, l1, rm1, rr⟩ => ⟨I1.kIn, ?_⟩) he hpl
  have hl2 : (us ++ []).length = ps.length := by
    rw [List.append_nil, ← r.length, rr.len]; exact Fn.len _ _ hsp
  have hbt := hbd s1 us I1.kIn hl2
  rw [List.append_nil] at hbt
  refine wpAny_call (codeAny_mono (Fn.run X.A X.stack s1 H1 ⟨us, []⟩ us vs xs M1 out (hr.mono (by omega)) I1.env0 hbt r rm1 rr hsp) fun res s2 made => ?_)
  cases res with
  | error e => exact made.elim
  | ok fl =>
    cases fl with
    | next => exact made.elim
    | brk => exact made.elim
    | cont => exact made.elim
    | ret u =>
      obtain ⟨a, g0, go, c, rfl, hgo, ⟨nm, qn, g1, g2, g3⟩, hgs, ⟨_, _, _⟩, hos, hbare, hkp, hG⟩ := made
      have I2 : Inv X pins σ H1 s2 := I1.call' (ch := []) hos (Un.kept hkp) (I1.hok.kept hkp) hbare fun b z => by cases z
      obtain ⟨G, eP, ew, eK, eB, eA, eo, eos, en, eg, hna, wok, hfa, hzz⟩ := hG X.A.in1.in1.in1 ⟨hr.hd, by have := hr.dp; show X.A.depth + 3 * k + _ < _; omega, by have := hr.un; show X.A.units + 1 + 1 + 1 + 16 * k + _ < _; omega⟩ I1.ok.frames
      refine Calls.spliced_nil ?_
      have isg : s2.heap.IsGen a g0 := ⟨go, nm, qn, hgo, g1, g2, g3⟩
      generalize hLL : s2.heap.objs.size = L
      have aL : a < L := by rw [← hLL]; exact Heap.lt_size hgo
      have nLa : L ≠ a := Nat.ne_of_gt aL
      have olds : ∀ b o, s2.heap.get? b = some o → b ≠ L := fun b o e => by rw [← hLL]; exact Nat.ne_of_lt (Heap.lt_size e)
      refine callType_codes (Q₁ := fun obj s₁ => obj = .ref L ∧ s₁ = { s2 with heap := s2.heap.push { cls := .type "list", data := .seq #[] } }) F.called_list (F.typeCall_list_1 _) F.entry_list_init
        (by rw [← hLL]; exact code_list_new _ ⟨rfl, rfl⟩) fun obj s₁ h₁ => ?_
      obtain ⟨rfl, rfl⟩ := h₁
      have t0 : (s2.heap.push { cls := .type "list", data := .seq #[] }).get? L = some { cls := .type "list", data := .seq #[] } := by rw [← hLL]; exact Heap.get?_push_size _ rfl
      refine ⟨⟨_, t0, rfl⟩, F.args_list_init_2 _ _, ?_⟩
      show wpAny _ X.A.in1.in1 (do let old ← Builtin.List.listItems (.ref L); Builtin.List.listUpdate (.ref L) (fun _ => #[]); letGo old.toList.reverse; Builtin.List.listExtendWith (.ref L) (.ref a) .none) _ _ _
      refine wpAny_bind ?_
      unfold Builtin.List.listItems
      refine wpAny_bind (wpAny_seqItems t0 rfl (wpAny_pure ?_))
      show wpAny _ X.A.in1.in1 (updateSeq L (fun _ => #[]) >>= fun _ => letGo (#[] : Array Value).toList.reverse >>= fun _ => Builtin.List.listExtendWith (.ref L) (.ref a) .none) _ _ _
      refine wpAny_bind (wpAny_updateSeq t0 rfl ?_)
      have t1 := Heap.get?_update_self (Obj.mapSeq (fun _ => (#[] : Array Value))) t0 rfl
      refine wpAny_bind (wpAny_letGo ?_)
      unfold Builtin.List.listExtendWith
      have grow : ∀ (h : Heap) (f : Obj → Obj), (∀ b o, s2.heap.get? b = some o → h.get? b = some o) → ∀ b o, s2.heap.get? b = some o → (h.update L f).get? b = some o := fun h f q b o e =>
        (Heap.get?_update_other h f (Ne.symm (olds b o e))).trans (q b o e)
      have y1 : ∀ b o, s2.heap.get? b = some o → (s2.heap.push { cls := .type "list", data := .seq #[] }).get? b = some o := fun b o e => Heap.get?_push_of_some _ e
      have y2 := grow _ (Obj.mapSeq (fun _ => (#[] : Array Value))) y1
      have gty : ∀ {h : Heap}, (∀ b o, s2.heap.get? b = some o → h.get? b = some o) → h.IsGen a g0 := fun {h} q => isg.keeps q
      refine wpAny_bind (wpAny_typeOf (Heap.IsGen.typeIs (s := { s2 with heap := _ }) (gty y2)) ?_)
      have b1 : Builtin.List.listSameRef (.ref L) (.ref a) = false := by simp [Builtin.List.listSameRef, nLa]
      have b2 : (Value.type "generator" == Value.type "list") = false := by decide
      have b3 : (Value.type "generator" == Value.type "tuple") = false := by decide
      simp only [b1, b2, b3, Bool.or_false, Bool.false_eq_true, if_false]
      refine wpAny_bind (wpAny_pyIter_gen (s := { s2 with heap := _ }) (gty y2) ?_)
      refine wpAny_bind (wpAny_holding ?_)
      unfold Builtin.List.listLengthHint
      refine wpAny_bind (wpAny_specialOf (Heap.IsGen.typeIs (s := { s2 with heap := _ }) (gty y2)) F.gen_no_len ?_)
      show wpAny _ X.A.in1.in1 (specialOf (Value.ref a) (Str.ofString "__length_hint__") >>= _) _ _ _
      refine wpAny_bind (wpAny_specialOf (Heap.IsGen.typeIs (s := { s2 with heap := _ }) (gty y2)) F.gen_no_hint ?_)
      refine wpAny_pure ?_
      show wpAny _ X.A.in1.in1 (rule "list.extend.makes-room" >>= fun _ => Builtin.List.listTouch (.ref L) >>= fun _ => again (.builtin "list.extend.loop" ⟨[.ref L, .ref a, .none], []⟩)) _ _ _
      refine wpAny_bind (wpAny_rule (wpAny_bind ?_))
      show wpAny _ X.A.in1.in1 (updateSeq L (·.push .none) >>= fun _ => updateSeq L (·.pop)) _ _ _
      refine wpAny_bind (wpAny_updateSeq t1 rfl ?_)
      have t2 := Heap.get?_update_self (Obj.mapSeq (·.push Value.none)) t1 rfl
      refine wpAny_updateSeq (hz := by seq_fits) t2 rfl ?_
      have t3 := Heap.get?_update_self (Obj.mapSeq (·.pop)) t2 rfl
      have y4 := grow _ (Obj.mapSeq (·.pop)) (grow _ (Obj.mapSeq (·.push Value.none)) y2)
      refine wpAny_pure ⟨plainId_quiet F.plain_extend_loop _, ?_⟩
      generalize hH5 : Heap.update _ L (Obj.mapSeq (·.pop)) = h5 at t3 y4 ⊢
      have hL1 : H1 L = none := by rw [← hLL]; exact I2.hok.fresh (Nat.le_refl _)
      have I5 : Inv X pins σ (upd H1 L (.lst [])) { s2 with heap := h5 } := I2.laid (a := L) (o := .lst []) (t' := s2.toks) y4 (by rw [hLL]; exact Nat.le_refl _) ⟨Nat.zero_le _, [], _, .nil, t3⟩
      have at0 : LcAt X.K M1 H1 L [] M1.m (upd H1 L (.lst [])) := .start rm1 hL1
      have dok : DrOk X G a g0 go s1 := by
        refine ⟨eP, ew, eK, eB, eA, eo, eos, I1.os, hna, ⟨nm, qn, g1, g2, g3⟩, wok.bsz, fun b hb => (wok.frf b hb).2, by rw [en]; exact I1.lt, by rw [en]; exact I1.sz, fun y c e => ?_, eg⟩
        obtain ⟨v, q⟩ := I1.cell y c e
        rw [en]; exact q.lt
      refine drainX (ys := ys) dok (fun p hp => by rw [en]; exact Heap.lt_size (I1.pin p hp).1) hc (by have := hr.dp; omega) hL1 hy hz (fun H6 s6 I6 at6 => ⟨rfl, .ref L, H6, I6, rfl, ?_⟩) ys.length [] { s2 with heap := h5 } (by simp) rfl ⟨upd H1 L (.lst []), .fresh c, s2, H1, hidAll M1, I5, at0, hgs, y4 _ _ hgo, hzz _, ?_⟩
      · refine ⟨⟨I5.os.trans (dok.hos.symm.trans eos.symm), I5.bare, by rw [eP, ew]; exact I5.hok, fun b o e => I5.bs b o (by rw [← eB]; exact e), wok.bsz, ?_, by rw [eB, eo]; exact I5.stack, fun b hb => ⟨I5.stkFree b (by rw [← eo]; exact hb), (wok.frf b hb).2⟩, by rw [eK]; exact hidAll_rm at0.rm, wok.gz⟩, fun b o _ e1 e2 _ => ⟨y4 b o e1, by rw [upd_ne (olds b o e1)]; exact e2⟩, fun b o _ h2 h3 => ?_, fun _ _ _ e _ => e⟩
        · exact Nat.le_trans (Nat.le_of_lt hna) (Nat.le_of_lt (Heap.lt_size (y4 _ _ hgo)))
        · have nb : b ≠ L := fun z => by rw [z, hL1] at h3; cases h3
          refine ⟨rfl, fun z => h2 ?_, by rw [upd_ne nb]; exact h3⟩
          rcases z with z | z | z
          · exact .inl z
          · exact .inr z
          · exact absurd z nb
      · obtain ⟨vs6, e6, r6⟩ := at6.ac
        refine hq (.lst ys) M1 _ _ q (l1.trans at6.le) ?_ (Rep.lst_iff.mpr ⟨L, vs6, rfl, ⟨rm1.free hL1, rm1.vis hL1, e6⟩, r6.mono hid_lw⟩)
        refine ⟨fun b o e => ?_, fun b z => at6.rm.h b (.inl z)⟩
        have nb : b ≠ L := fun z => by rw [z, rm1.free hL1] at e; cases e
        exact (at6.rm.o b o e).mono hid_lw rfl
end
end Lt
/-! within a generator: for x in g(..) over a generator def -/
namespace Lt
open PySem PySem.Spec PyProof.Rows L2 GenW
def bigGens (g1 : Nat) (A : Array GenState) : List (Nat × GenState) := ((List.range A.size).filterMap fun i => A[i]?.map fun x => (i, x)).filter fun p => decide (g1 ≤ p.1) && isSus p.2
theorem mem_bigGens {g1 i : Nat} {A : Array GenState} {x : GenState} (e : A[i]? = some x) (h1 : g1 ≤ i) (h2 : isSus x = true) : (i, x) ∈ bigGens g1 A := by
  refine List.mem_filter.mpr ⟨List.mem_filterMap.mpr ⟨i, List.mem_range.mpr (Array.getElem?_eq_some_iff.mp e).1, by rw [e]; rfl⟩, ?_⟩
  rw [h2, decide_eq_true h1]; rfl
theorem of_bigGens {g1 : Nat} {A : Array GenState} {p : Nat × GenState} (hp : p ∈ bigGens g1 A) : A[p.1]? = some p.2 ∧ g1 ≤ p.1 ∧ isSus p.2 = true := by
  obtain ⟨h1, h2⟩ := List.mem_filter.mp hp
  rw [Bool.and_eq_true] at h2
  obtain ⟨i, _, e⟩ := List.mem_filterMap.mp h1
  cases q : A[i]? with
  | none => rw [q] at e; cases e
  | some x => rw [q] at e; cases e; exact ⟨q, of_decide_eq_true h2.1, h2.2⟩
def tForG (gsp : DGsp) (ts : DA) (g : Tg) (tb : DGn) : DGn := fun D' n i ds M => ts ds M fun xs M1 => ∃ out, gsp xs out ∧ ∃ P : Nat → Nat → Nat → Nat → DS → Mp → Prop, (∃ q, P q 0 n i ds M1) ∧ ∀ q j n i ds M, P q j n i ds M → match out j with
  | none => D'.nx n i ds M
  | some d => dTg g d ds fun ds1 => tb { D' with nx := fun n i ds M => ∃ q', q' < q ∧ P q' (j + 1) n i ds M, ct := fun n i ds M => ∃ q', q' < q ∧ P q' (j + 1) n i ds M, bk := D'.nx } n i ds1 M
section
variable {G : GCx} {a : Addr} {go : Obj} {out : Nat → Option D}
theorem xs_forG {x : Str} {k : Nat} {ps : List Str} {gsp : DGsp} {e : Expr} {es : List Expr} {ts : DA} {tg : Expr} {g : Tg} {body : List Stmt} {tb : DGn} {p pos pos' : Pos} (gk : GOk G)
    (C : GenCallee G.P G.w G.K G.mg G.base x k ps gsp) (hr : Room (k + 1) (G.A.deeper G.env)) (hg : ∀ sw Hw, Gl (G.x sw Hw) x) (ha : ∀ sw Hw M0 H0, EA (G.x sw Hw) M0 H0 (e :: es) ts) (hgt : ∀ sw Hw, EG (G.x sw Hw) tg g) (hb : XSs G a go out body tb)
    (hdb : (x == ("__debug__" : Str)) = false := by decide) (he : starEach (e :: es) G.env = (false, eval e G.env) :: starEach es G.env := by rfl) (hpl : (backTo pos' (starEach es G.env)).any (·.1) = false := by rfl)
    (hs : ∀ y, foldedSetIterable (.Call (.Name x p) (e :: es) [] pos') G.env y = pure y := by intro _; rfl) :
    XS G a go out (.For tg (.Call (.Name x p) (e :: es) [] pos') body [] pos) (tForG gsp ts g tb) := by
  refine ⟨fun n i wk pins gs c fs K J gd lv s σ H ds m D gp pn hh q kk => x_for hs ?_⟩
  rw [gp.over]
  obtain ⟨f, fd, F, hm, hk, hbd⟩ := C.ex
  refine wpAny_Call_Name_kw (ld_glob hh.inv (hg _ _) hm ?_ hdb)
  refine PySem.W.callWith_K (h₀ := G.base) gk.mod.kin hk (wpAny_mono (wpAny_beside ((ha wk.s wk.H ⟨noM, wk.S⟩ wk.H).run pos' pins (allPoison s) σ H (fun vs H1 => ∃ xs m1, (∃ out, gsp xs out ∧ ∃ P : Nat → Nat → Nat → Nat → DS → Mp → Prop, (∃ q, P q 0 n i ds m1) ∧ ∀ q j n i ds M, P q j n i ds M → match out j with
      | none => D.nx n i ds M
      | some d => dTg g d ds fun ds1 => tb { D with nx := fun n i ds M => ∃ q', q' < q ∧ P q' (j + 1) n i ds M, ct := fun n i ds M => ∃ q', q' < q ∧ P q' (j + 1) n i ds M, bk := D.nx } n i ds1 M) ∧ Le ⟨m, wk.S⟩ H ⟨m1, wk.S⟩ H1 ∧ RelM G.K ⟨m1, wk.S⟩ H1 ∧ Reps G.K ⟨m1, wk.S⟩ H1 vs xs) (Inv.gens hh.inv rfl rfl (bare_all hh.inv.bare))
    ⟨ds, ⟨m, wk.S⟩, _, hh.le, hh.rm, hh.rs, q, fun xs M' vs H1 q l rm1 r1 => ?_⟩)) (fun us s1 ⟨s0, es0, P0, vs, H1, I0, r, xs, m1, ⟨out1, hsp, P, ⟨q0, p0⟩, hP⟩, l1, rm1, rr⟩ => ⟨?_, ?_⟩) fun _ _ ⟨_, _, _, z⟩ => z) he hpl
  · have eS : M'.s = wk.S := l.2
    obtain ⟨m', S'⟩ := M'
    cases eS
    exact ⟨xs, m', q, l, rm1, r1⟩
  · subst es0
    exact (Inv.gens (s' := Ung s.gens s0) I0 rfl rfl (bare_Ung hh.inv.bare I0.bare)).kIn
  subst es0
  have at1 : GAt G wk pins gs σ H1 (Ung s.gens s0) ds m1 := hh.ran P0 I0 l1 rm1 (hh.rs.mono l1.w)
  generalize Ung s.gens s0 = s1 at at1 ⊢
  clear I0 P0
  have I1 := at1.inv
  have hl2 : (us ++ []).length = ps.length := by
    rw [List.append_nil, ← r.length, rr.len]; exact F.len _ _ hsp
  have hbt := hbd s1 us I1.kIn hl2
  rw [List.append_nil] at hbt
  refine wpAny_call (codeAny_mono (F.run (G.A.deeper G.env) (G.x wk.s wk.H).stack s1 H1 ⟨us, []⟩ us vs xs ⟨m1, wk.S⟩ out1 (hr.mono (Nat.le_succ k)) I1.env0 hbt r rm1 rr hsp) fun res s2 made => ?_)
  cases res with
  | error e => exact made.elim
  | ok fl =>
    cases fl with
    | next => exact made.elim
    | brk => exact made.elim
    | cont => exact made.elim
    | ret u =>
      obtain ⟨a1, g1, go1, c1, rfl, hgo, ⟨nm, qn, z1, z2, z3⟩, hgs, ⟨sz1, sz2, gkeep⟩, hos, hbare, hkp, hG⟩ := made
      have I2 : Inv (G.x wk.s wk.H) pins σ H1 s2 := I1.call' (ch := []) hos (Un.kept hkp) (I1.hok.kept hkp) hbare fun b z => by cases z
      obtain ⟨GI, eP, ew, eK, eB, eA, eo, eos, en, eg, hna, wok, hfa, hz⟩ := hG (G.A.deeper G.env).in1 hr.in1 I1.ok.frames
      have at2 : GAt G wk pins gs σ H1 s2 ds m1 := ⟨at1.ok, I2, at1.le, at1.rm, at1.rs, by have := at1.gz; omega, fun g x h1 h2 h3 => gkeep g x (at1.gk g x h1 h2 h3), fun p hp => let ⟨h1, h2, h3⟩ := at1.gp p hp; ⟨h1, gkeep _ _ h2, h3⟩⟩
      have isg : s2.heap.IsGen a1 g1 := ⟨go1, nm, qn, hgo, z1, z2, z3⟩
      refine wpAny_pyIter_gen isg ?_
      intro kk0 pp hk0
      have lowL : G.n0 < GI.n0 := by rw [en]; exact I1.lt
      have lowS : ∀ (wk2 : Wk), WkOk G wk2.s wk2.H wk2.S → (G.x wk2.s wk2.H).s_0.heap.objs.size ≤ GI.n0 := fun wk2 ok => by
        show (cutHp wk2.s.heap G.n0).objs.size ≤ GI.n0
        rw [cutHp_size ok.sz]; exact Nat.le_of_lt lowL
      have lowC : ∀ y c, G.env.cells.lookup y = some c → c < GI.n0 := fun y c e => by
        have e : (cellsFrom (G.n0 + 1) G.scope.names []).lookup y = some c := e
        rw [gk.cells] at e; cases e
      have lowP : ∀ p ∈ [] ++ pins, p.1 < GI.n0 := fun p hp => by rw [en]; exact Heap.lt_size (I1.pin p hp).1
      have lowG : G.g0 < g1 := by have := at1.gz; omega
      have lowgp : ∀ p ∈ gs, p.1 < g1 := fun p hp => by
        have := (Array.getElem?_eq_some_iff.mp (at1.gp p hp).2.1).1
        omega
      have eos2 : GI.os = G.os := eos.trans (I1.os.trans hh.ok.os)
      have ov : G.A.over (.forLoop tg (.ref a1) body [] G.env) (.ret kk0 none (gd false) (lv []) c pp [] :: fs) = G.A.deeper G.env := (over_loop rfl rfl).trans gp.over
      have gp2 : GPos G (.forLoop tg (.ref a1) body [] G.env) (.ret kk0 none (gd false) (lv []) c pp [] :: fs) id := ⟨ov, by
        show (splitAtGen fs).map _ = none
        rw [gp.split]; rfl, by
        show (gd false || fs.any Frame.guarded) = false
        rw [gp.gd, gp.guard]; rfl, rfl⟩
      have hlw : ∀ {m m' : Mp} {S S' : Addr → Prop} {H H' : Hp}, Lw ⟨m, S⟩ H ⟨m', S'⟩ H' → Lw ⟨noM, hidAll ⟨m, S⟩⟩ H ⟨noM, hidAll ⟨m', S'⟩⟩ H' := fun {m m' S S' H H'} l b o _ h2 h3 => by
        have h2a : m b = none := Classical.byContradiction fun z => h2 (.inl z)
        have h2b : ¬ S b := fun z => h2 (.inr z)
        obtain ⟨k1, k2, k3⟩ := l b o h2a h2b h3
        exact ⟨rfl, fun z => z.elim (fun z => z k1) k2, k3⟩
      have loop : ∀ (q j n i : Nat) (wk2 : Wk) (s3 : Shared) (σ3 : L2.St) (H3 : Hp) (ds3 : DS) (m3 : Mp) (gs1 : GenState) (sP : Shared) (HP : Hp) (SP : Addr → Prop) (N : Nat), GAt G wk2 pins gs σ3 H3 s3 ds3 m3 → Lw ⟨m1, wk.S⟩ H1 ⟨m3, wk2.S⟩ H3 → P q j n i ds3 m3 → q < N →
          s3.gens[g1]? = some gs1 → s3.heap.get? a1 = some go1 → Zz GI a1 go1 out1 N j gs1 sP HP SP → Slept2 GI sP HP SP s3 H3 (hidAll ⟨m3, wk2.S⟩) →
          SegX (model G.P G.w) G.A (Phi G a go out n i wk2) (.forLoop tg (.ref a1) body [] G.env) ((model G.P G.w).den (.forLoop tg (.ref a1) body [] G.env)) (.ret kk0 none (gd false) (lv []) c pp [] :: fs) s3 := by
        intro q
        induction q using Nat.strongRecOn with
        | ind q ih =>
          intro j n i wk2 s3 σ3 H3 ds3 m3 gs1 sP HP SP N at3 lw3 p3 hN hgs3 hgo3 zz sl
          obtain ⟨N, rfl⟩ : ∃ N', N = N' + 1 := ⟨N - 1, by omega⟩
          have I3 := at3.inv
          have wk0 : WkOk GI (s3.setGen g1 .running) H3 (hidAll ⟨m3, wk2.S⟩) := ⟨sl.ok.os, allBare_setGen sl.ok.bare rfl, sl.ok.hok, sl.ok.bs, sl.ok.bsz, sl.ok.sz, sl.ok.funs, sl.ok.frf, sl.ok.rm, by rw [GenW.setGen_size]; exact sl.ok.gz⟩
          have go1' := zz ⟨s3.setGen g1 .running, H3, hidAll ⟨m3, wk2.S⟩⟩ ⟨wk0, sl.own, sl.lw, fun g x h1 h2 h3 => by rw [setGen_get, if_neg (by omega)]; exact sl.gn g x h1 h2 h3⟩
          have go2 : GoesX (model G.P G.w) (G.A.deeper G.env).in1 (PhiOf GI a1 go1 out1 (Zz GI a1 go1 out1 N) j ⟨s3.setGen g1 .running, H3, hidAll ⟨m3, wk2.S⟩⟩) gs1 (s3.setGen g1 .running) := by
            rw [eP, ew, eA] at go1'; exact go1'
          have isg3 : s3.heap.IsGen a1 g1 := ⟨go1, nm, qn, hgo3, z1, z2, z3⟩
          have step := hP q j n i ds3 m3 p3
          have hgl3 : g1 < s3.gens.size := (Array.getElem?_eq_some_iff.mp hgs3).1
          have seen : ∀ (s4 : Shared) (H4 : Hp) (x : GenState), x.bare = true → s3.gens.size ≤ s4.gens.size → Since GI a1 go1 ⟨s3.setGen g1 .running, H3, hidAll ⟨m3, wk2.S⟩⟩ s4 H4 → GAt G wk2 pins gs σ3 H4 (s4.setGen g1 x) ds3 m3 ∧ Le ⟨m3, wk2.S⟩ H3 ⟨m3, wk2.S⟩ H4 := fun s4 H4 x hx gz si => by
            have all : ∀ b o, H3 b = some o → H4 b = some o := fun b o e => (si.le.1 b o rfl e).2
            have l4 : Le ⟨m3, wk2.S⟩ H3 ⟨m3, wk2.S⟩ H4 := ⟨fun b o h1 h2 => ⟨h1, all b o h2⟩, rfl⟩
            refine ⟨⟨at3.ok, I3.call' (ch := chOf GI ⟨s3.setGen g1 .running, H3, hidAll ⟨m3, wk2.S⟩⟩) ?_ ?_ ?_ (allBare_setGen si.bare hx) fun b hb => ?_, at3.le.trans l4, ⟨fun b o e => ?_, fun b z => ?_⟩, at3.rs.mono l4.w, ?_, fun g y h1 h2 h3 => ?_, fun p hp => ?_⟩, l4⟩
            · show s4.os = s3.os
              rw [si.os, eos2, I3.os]; exact at3.ok.os.symm
            · have u := si.un
              rw [eo] at u; exact u
            · have u := si.hok
              rw [eP, ew] at u; exact u
            · have q := of_chOf hb
              exact ⟨.inr (Nat.le_trans (lowS wk2 at3.ok) q), Nat.ne_of_gt (Nat.lt_of_lt_of_le lowL q), fun y c e => Nat.ne_of_lt (Nat.lt_of_lt_of_le (lowC y c e) q), fun p hp => Nat.ne_of_lt (Nat.lt_of_lt_of_le (lowP p hp) q)⟩
            · have r := at3.rm.o b o e
              refine r.mono l4.w ?_
              cases o with
              | lst xs => obtain ⟨ys, h, _⟩ := r; rw [h, all b _ h]
              | ins C fs => obtain ⟨dx, ys, h, _⟩ := r; rw [h, all b _ h]
              | dct ks vs => obtain ⟨ys, h, _⟩ := r; rw [h, all b _ h]
              | dn w ks vs => obtain ⟨ys, h, _⟩ := r; rw [h, all b _ h]
            · obtain ⟨h1, o, h2⟩ := at3.rm.h b z
              exact ⟨h1, o, all b o h2⟩
            · rw [GenW.setGen_size]; omega
            · have e1 := at3.gk g y h1 h2 h3
              rw [setGen_get, if_neg (by omega)]
              exact si.gk g y (by omega) (by show (s3.setGen g1 .running).gens[g]? = some y; rw [setGen_get, if_neg (by omega)]; exact e1) h3
            · obtain ⟨h1, h2, h3⟩ := at3.gp p hp
              have := lowgp p hp
              refine ⟨h1, ?_, h3⟩
              rw [setGen_get, if_neg (by omega)]
              exact si.gk p.1 p.2 (by omega) (by show (s3.setGen g1 .running).gens[p.1]? = some p.2; rw [setGen_get, if_neg (by omega)]; exact h2) h3
          refine x_forLoop ?_
          rw [ov]
          refine nextX (I3.ok.hd rfl) I3.nolimit hr.depth isg3 hgs3 go2 fun e s4 gz φ => ?_
          cases e with
          | ret res =>
            obtain ⟨h1, h2, H4, si⟩ := φ
            refine ⟨h1, fun h' hk' => ?_⟩
            rw [h2] at step
            obtain ⟨at4, l4⟩ := seen s4 H4 .finished rfl gz si
            have I5 : Inv (G.x wk2.s wk2.H) pins σ3 H4 { s4.setGen g1 .finished with heap := h' } := at4.inv.kept (t' := (s4.setGen g1 .finished).toks) hk'
            refine x_leaf (.ok .next) ?_
            rw [hk0]
            exact kk n i wk2 _ .next ⟨σ3, H4, ds3, m3, ⟨at4.ok, I5, at4.le, at4.rm, at4.rs, at4.gz, at4.gk, at4.gp⟩, (l1.w.trans lw3).trans l4.w, step⟩
          | susp v b l k' c' p' fs' =>
            obtain ⟨h1, d, x', H4, h2, rv, rd, si, zz2⟩ := φ
            refine ⟨h1, ?_⟩
            rw [h2] at step
            have hbr : (End.susp v b l k' c' p' fs').genState.bare = true := End.bare_of_quiet h1
            have hsus : isSus (End.susp v b l k' c' p' fs').genState = true := rfl
            generalize hgx : (End.susp v b l k' c' p' fs').genState = gs4 at hbr hsus zz2 ⊢
            obtain ⟨at4, l4⟩ := seen s4 H4 gs4 hbr gz si
            have hgo4 : (s4.setGen g1 gs4).heap.get? a1 = some go1 := si.obj
            refine go_of hgo4 z1 z2 (by decide) ?_
            have hgl : g1 < s4.gens.size := Nat.lt_of_lt_of_le hgl3 gz
            have hg5 : (s4.setGen g1 gs4).gens[g1]? = some gs4 := setGen_at hgl
            have hoth : ∀ (g : Nat) (x : GenState), g1 < g → s4.gens[g]? = some x → (s4.setGen g1 gs4).gens[g]? = some x := fun g x h1 h2 => by rw [setGen_get, if_neg (by omega)]; exact h2
            have hheap : (s4.setGen g1 gs4).heap = s4.heap := rfl
            generalize s4.setGen g1 gs4 = s5 at at4 hgo4 hg5 hoth hheap ⊢
            have I4 := at4.inv
            have lowF : ∀ b ∈ (G.x wk2.s wk2.H).fs, b < GI.n0 := fun b hb => by
              obtain ⟨_, o, ho, _⟩ := I4.ok.funs.mem hb
              exact Nat.lt_of_lt_of_le (Heap.lt_size ho) (lowS wk2 at3.ok)
            have I5 : Inv (G.x wk2.s wk2.H) (pins ++ bigPins GI.n0 s5.heap H4) σ3 H4 s5 := I4.pins_of fun p hp => by
              rcases List.mem_append.mp hp with hp | hp
              · exact I4.pin p (List.mem_append_right _ hp)
              · obtain ⟨e1, e2, e3, e4⟩ := of_bigPins hp
                exact ⟨e1, e3, Nat.ne_of_gt (Nat.lt_of_lt_of_le lowL e2), fun z => absurd (Nat.lt_of_lt_of_le (lowF _ z) e2) (Nat.lt_irrefl _), e4⟩
            have rd4 : Rep G.K ⟨m3, wk2.S⟩ H4 x' d := by
              rw [eK] at rd
              exact rd.mono hidAll_back
            have at5 : GAt G wk2 (pins ++ bigPins GI.n0 s5.heap H4) (gs ++ bigGens g1 s5.gens) σ3 H4 s5 ds3 m3 := ⟨at4.ok, I5, at4.le, at4.rm, at4.rs, at4.gz, at4.gk, fun p hp => by
              rcases List.mem_append.mp hp with hp | hp
              · exact at4.gp p hp
              · obtain ⟨e1, e2, e3⟩ := of_bigGens hp
                exact ⟨by omega, e1, e3⟩⟩
            have hA := (hgt wk2.s wk2.H).run _ (allPoison s5) σ3 H4 x' v (fun σ' H' => H' = H4 ∧ ∃ ds', RelS G.K ⟨m3, wk2.S⟩ H4 σ' ds' ∧ tb { D with nx := fun n i ds M => ∃ q', q' < q ∧ P q' (j + 1) n i ds M, ct := fun n i ds M => ∃ q', q' < q ∧ P q' (j + 1) n i ds M, bk := D.nx } n i ds' m3)
              (Inv.gens I5 rfl rfl (bare_all I5.bare)) rv (hTg_ok rd4 (at4.rs) step fun σ' ds' kq rs' _ => ⟨rfl, ds', rs', kq⟩)
            refine wpAny_mono (wpAny_beside hA) (fun _ s6 z => ?_) fun _ _ ⟨_, _, _, z⟩ => z
            obtain ⟨s60, rfl, P6, σ6, H6, I6, rfl, ds6, rs6, q6⟩ := z
            have at6 := at5.ran P6 I6 .refl at4.rm rs6
            intro J2
            have pn2 : Pins G a go (pins ++ bigPins GI.n0 s5.heap H6) := ⟨List.mem_append_left _ pn.me, fun p hp => (List.mem_append.mp hp).elim (pn.up p) fun z => Nat.le_trans (Nat.le_of_lt lowL) (of_bigPins z).2.1⟩
            refine hb.run n i wk2 _ _ _ _ _ J2 id id _ σ6 H6 ds6 m3 _ gp2 pn2 at6 q6 fun n' i' wk3 s7 f z => ?_
            obtain ⟨σ7, H7, ds7, m7, h7, lw7, z⟩ := z
            have I7 := h7.inv
            have at7 : GAt G wk3 pins gs σ7 H7 s7 ds7 m7 := ⟨h7.ok, I7.unpinned, h7.le, h7.rm, h7.rs, h7.gz, h7.gk, fun p hp => h7.gp p (List.mem_append_left _ hp)⟩
            have lw9 := (lw3.trans l4.w).trans lw7
            have hnoc : ∀ v, go1.data ≠ .cell v := fun v q => by rw [z2] at q; cases q
            have again : (∃ q', q' < q ∧ P q' (j + 1) n' i' ds7 m7) → SegX (model G.P G.w) G.A (Phi G a go out n' i' wk3) (.forLoop tg (.ref a1) body [] G.env) ((model G.P G.w).den (.forLoop tg (.ref a1) body [] G.env)) (.ret kk0 none (gd false) (lv []) c pp [] :: fs) s7 := by
              rintro ⟨q', hq', p7⟩
              have kept : ∀ b o, GI.n0 ≤ b → s4.heap.get? b = some o → H6 b = none → (∀ v, o.data ≠ .cell v) → s7.heap.get? b = some o ∧ H7 b = none := fun b o h1 h2 h3 h4 => by
                obtain ⟨y1, y2, _⟩ := I7.pin (b, o) (List.mem_append_right _ (List.mem_append_right _ (mem_bigPins (by rw [hheap]; exact h2) h1 h3 h4)))
                exact ⟨y1, y2⟩
              have hg7 := (h7.gp (g1, gs4) (List.mem_append_right _ (mem_bigGens hg5 (Nat.le_refl _) hsus))).2.1
              have hgo7 := (kept a1 go1 (Nat.le_of_lt hna) si.obj si.free.1 hnoc).1
              refine ih q' hq' (j + 1) n' i' wk3 s7 σ7 H7 ds7 m7 gs4 s4 H6 _ N at7 lw9 p7 (by omega) hg7 hgo7 zz2 ⟨⟨?_, I7.bare, by rw [eP, ew]; exact I7.hok, fun b o e => I7.bs b o (by rw [eB] at e; exact e), wok.bsz, ?_, by rw [eB, eo]; exact I7.stack, fun b hb => ⟨I7.stkFree b (by rw [eo] at hb; exact hb), (wok.frf b hb).2⟩, by rw [eK]; exact hidAll_rm h7.rm, by rw [eg]; exact (Array.getElem?_eq_some_iff.mp hg7).1⟩, kept, hlw lw7, fun g y h1 h2 h3 => ?_⟩
              · rw [I7.os, eos2]; exact h7.ok.os
              · exact Nat.le_trans (Nat.le_of_lt hna) (Nat.le_of_lt (Heap.lt_size hgo7))
              · rw [eg] at h1
                exact (h7.gp (g, y) (List.mem_append_right _ (mem_bigGens (hoth g y h1 h2) (Nat.le_of_lt h1) h3))).2.1
            cases f with
            | next => exact x_again rfl (again z)
            | cont => exact x_again rfl (again z)
            | brk =>
              refine x_leaf (.ok .next) ?_
              rw [hk0]
              exact kk n' i' wk3 s7 .next ⟨σ7, H7, ds7, m7, at7, l1.w.trans lw9, z⟩
            | ret u =>
              refine x_leaf (.ok (.ret u)) ?_
              rw [hk0]
              exact kk n' i' wk3 s7 (.ret u) ⟨σ7, H7, ds7, m7, at7, l1.w.trans lw9, z⟩
      exact loop q0 0 n i wk s2 σ H1 ds m1 (.fresh c1) s2 H1 _ (q0 + 1) at2 (fun _ _ h1 h2 h3 => ⟨h1, h2, h3⟩) p0 (Nat.lt_succ_self _) hgs hgo (hz _) ⟨wok, fun b o _ h1 h2 _ => ⟨h1, h2⟩, fun _ _ h1 h2 h3 => ⟨h1, h2, h3⟩, fun _ _ _ e _ => e⟩
end
end Lt
namespace Lt
open PySem PySem.Spec PyProof.Rows L2
/-! #### _law_value s -/
theorem revS_word (bs : List Int) : revS (wordS bs) = wordS bs.reverse := by
  refine TL.ext_tl ?_
  show ((wordS bs).cps.toList.reverse.toArray).toList = (bs.reverse.map sgn).toArray.toList
  show (bs.map sgn).reverse = bs.reverse.map sgn
  rw [List.map_reverse]
theorem sgn_int {b : Int} (hb : b = 0 ∨ b = 1) : PySem.intText? ⟨#[sgn b]⟩ = some b ∧ (⟨#[sgn b]⟩ : Str).length ≤ 640 := by
  rcases hb with rfl | rfl
  · exact ⟨by decide +kernel, by decide +kernel⟩
  · exact ⟨by decide +kernel, by decide +kernel⟩
structure sp__law_value_s (xs : List D) (M : Mp) (Q : DK) (E : XD) : Prop where
  ex : ∃ (bs : List Int), xs = [.str (wordS bs)] ∧ bs.length ≤ 1000 ∧ (∀ b ∈ bs, b = 0 ∨ b = 1) ∧ Q (.int (valL bs)) M
theorem len__law_value_s (xs : List D) (M : Mp) (Q : DK) (E : XD) : sp__law_value_s xs M Q E → xs.length = 1 := by
  rintro ⟨_, rfl, _⟩; rfl
theorem sp__law_value_s_ok {bs : List Int} {M : Mp} {Q : DK} {E : XD} (h : bs.length ≤ 1000) (h01 : ∀ b ∈ bs, b = 0 ∨ b = 1) (q : Q (.int (valL bs)) M) : sp__law_value_s [.str (wordS bs)] M Q E := ⟨bs, rfl, h, h01, q⟩
/-! #### _law_parts r -/
/-- the rest behind the word of a number's low bits -/
def restL (l : List Stp) (k : Nat) (w : Int) : List Stp := stepsOf (fin (startOf l) (nBits w k))
def outL (l : List Stp) (k : Nat) (w : Int) : Int := valL (nBits (run l w) k)
def rowL (l : List Stp) (k w : Nat) : D := .tup [.int (w : Nat), .int (outL l k w), stD (restL l k w)]
structure sp__law_parts_r (xs : List D) (M : Mp) (Q : DK) (E : XD) : Prop where
  ex : ∃ (l : List Stp) (k : Nat), xs = [stD l, .int k] ∧ l.length ≤ 100000 ∧ k ≤ 16 ∧ Q (.lst ((List.range (2 ^ k)).map (rowL l k))) M
theorem len__law_parts_r (xs : List D) (M : Mp) (Q : DK) (E : XD) : sp__law_parts_r xs M Q E → xs.length = 2 := by
  rintro ⟨_, _, rfl, _⟩; rfl
theorem sp__law_parts_r_ok {l : List Stp} {k : Nat} {M : Mp} {Q : DK} {E : XD} (h : l.length ≤ 100000) (hk : k ≤ 16) (q : Q (.lst ((List.range (2 ^ k)).map (rowL l k))) M) : sp__law_parts_r [stD l, .int k] M Q E := ⟨l, k, rfl, h, hk, q⟩
/-! #### _law_other r -/
/-- a step written otherwise, as two -/
def othS : Stp → List Stp
  | .mk .c => [.add (-1), .mk .t]
  | .mk .s => [.add 1, .mk .f]
  | .mk .f => [.mk .f, .mk .f]
  | .mk .t => [.mk .t, .mk .t]
  | .add k => [.add k, .add 0]
theorem othS_len (s : Stp) : (othS s).length = 2 := by
  match s with
  | .mk .c => rfl
  | .mk .s => rfl
  | .mk .f => rfl
  | .mk .t => rfl
  | .add k => rfl
theorem othS_lt {s : Stp} (h : s.lt 100) : ∀ x ∈ othS s, x.lt 100 := fun x hx => by
  match s, h, hx with
  | .mk .c, _, hx =>
    rcases List.mem_cons.mp hx with rfl | hx
    · show (-1 : Int).natAbs < _; decide
    · rw [List.mem_singleton.mp hx]; trivial
  | .mk .s, _, hx =>
    rcases List.mem_cons.mp hx with rfl | hx
    · show (1 : Int).natAbs < _; decide
    · rw [List.mem_singleton.mp hx]; trivial
  | .mk .f, _, hx =>
    rcases List.mem_cons.mp hx with rfl | hx
    · trivial
    · rw [List.mem_singleton.mp hx]; trivial
  | .mk .t, _, hx =>
    rcases List.mem_cons.mp hx with rfl | hx
    · trivial
    · rw [List.mem_singleton.mp hx]; trivial
  | .add k, h, hx =>
    rcases List.mem_cons.mp hx with rfl | hx
    · exact h
    · rw [List.mem_singleton.mp hx]; show (0 : Int).natAbs < _; decide
structure sp__law_other_r (xs : List D) (M : Mp) (Q : DK) (E : XD) : Prop where
  ex : ∃ (b : Addr) (r : List D) (n : Int) (l : List Stp), xs = [.ref b, stD l] ∧ l.length ≤ 5 ∧ (∀ s ∈ l, s.lt 100) ∧ M b = some (.lst r) ∧ Bar r n ∧ n < 2 ^ 58 ∧ ∀ l2 r', l2.length ≤ 10 → (∀ s ∈ l2, s.lt 100) → Bar r' (n + 2000) → Q (stD l2) (mup M b (.lst r'))
theorem len__law_other_r (xs : List D) (M : Mp) (Q : DK) (E : XD) : sp__law_other_r xs M Q E → xs.length = 2 := by
  rintro ⟨_, _, _, _, rfl, _⟩; rfl
/-! #### _law_is_step a -/
theorem mask_in (z : Str) : L2.inV (.str z) [.str "c", .str "s", .str "f", .str "t"] = isMaskD (.str z) := by
  by_cases e1 : z = "c"
  · subst e1; decide +kernel
  by_cases e2 : z = "s"
  · subst e2; decide +kernel
  by_cases e3 : z = "f"
  · subst e3; decide +kernel
  by_cases e4 : z = "t"
  · subst e4; decide +kernel
  show _ = (tab_TRIGGERS.lookup z).isSome
  simp [tab_TRIGGERS, List.lookup, beq_eq_false_iff_ne.mpr e1, beq_eq_false_iff_ne.mpr e2, beq_eq_false_iff_ne.mpr e3, beq_eq_false_iff_ne.mpr e4, L2.inV, L2.eqV, Ne.symm e1, Ne.symm e2, Ne.symm e3, Ne.symm e4]
def sp__law_is_step_a : DSp := fun xs M Q _ => ∃ d, xs = [d] ∧ (tyD M d).isSome = true ∧ (∀ a, d ≠ .ref a) ∧ Q (.bl (isStepD d)) M
theorem len__law_is_step_a (xs : List D) (M : Mp) (Q : DK) (E : XD) : sp__law_is_step_a xs M Q E → xs.length = 1 := by
  rintro ⟨_, rfl, _⟩; rfl
/-! #### _law_is_steps a -/
structure sp__law_is_steps_a (xs : List D) (M : Mp) (Q : DK) (E : XD) : Prop where
  ex : ∃ d dp n, xs = [d] ∧ Any d dp n ∧ Q (.bl (isStepsD d)) M
theorem len__law_is_steps_a (xs : List D) (M : Mp) (Q : DK) (E : XD) : sp__law_is_steps_a xs M Q E → xs.length = 1 := by
  rintro ⟨_, _, _, rfl, _⟩; rfl
/-! #### need_mask_index -/
/-- the index of a mask -/
def isMaskIx (ds : List D) : D → Bool
  | .int i => decide (0 ≤ i) && decide (i ≤ ds.length - 1) && (match ds[i.toNat]? with | some d => isMaskD d | none => false)
  | _ => false
def sp_need_mask_index (C : Addr) : DSp := fun xs M Q E => ∃ ds e, xs = [.tup ds, e] ∧ ds.length ≤ 1000000 ∧ (∀ x ∈ ds, (tyD M x).isSome = true) ∧ (tyD M e).isSome = true ∧ (isMaskIx ds e = true → Q .non M) ∧ (isMaskIx ds e = false → E (.ref C) none M)
theorem len_need_mask_index {C : Addr} (xs : List D) (M : Mp) (Q : DK) (E : XD) : sp_need_mask_index C xs M Q E → xs.length = 2 := by
  rintro ⟨_, _, rfl, _⟩; rfl
theorem isMaskIx_of {l : List Stp} {i : Nat} {m : Mk} (h : l[i]? = some (.mk m)) : isMaskIx (l.map Stp.d) (.int i) = true := by
  have hi := (List.getElem?_eq_some_iff.mp h).1
  unfold isMaskIx
  dsimp only
  rw [decide_eq_true (by omega), decide_eq_true (by rw [List.length_map]; omega), Int.toNat_natCast, List.getElem?_map, h]
  show (true && true && isMaskD (.str m.st)) = true
  cases m <;> decide
theorem maskIx_of {l : List Stp} {e : D} (h : isMaskIx (l.map Stp.d) e = true) : ∃ (i : Nat) (m : Mk), e = .int i ∧ l[i]? = some (.mk m) := by
  cases e with
  | int i =>
    unfold isMaskIx at h
    dsimp only at h
    rw [Bool.and_eq_true, Bool.and_eq_true] at h
    obtain ⟨⟨h1, h2⟩, h3⟩ := h
    have h1 := of_decide_eq_true h1
    have h2 := of_decide_eq_true h2
    refine ⟨i.toNat, ?_⟩
    rw [List.getElem?_map] at h3
    cases hc : l[i.toNat]? with
    | none => rw [hc] at h3; cases h3
    | some s =>
      rw [hc] at h3
      cases s with
      | add k => exact absurd (show isMaskD (.int k) = true from h3) (by simp [isMaskD])
      | mk m => exact ⟨m, by rw [Int.toNat_of_nonneg h1], rfl⟩
  | _ => cases h
theorem sp_need_mask_index_ok {C : Addr} {l : List Stp} {i : Nat} {m : Mk} {M : Mp} {Q : DK} {E : XD} (hl : l.length ≤ 1000000) (h : l[i]? = some (.mk m)) (q : Q .non M) : sp_need_mask_index C [stD l, .int i] M Q E :=
  ⟨_, _, rfl, by rw [List.length_map]; exact hl, fun x hx => (by obtain ⟨s, _, rfl⟩ := List.mem_map.mp hx; cases s <;> rfl), rfl, fun _ => q, fun e => by rw [isMaskIx_of h] at e; cases e⟩
/-! #### states_behind -/
/-- what stands behind a mask that works, after each bit -/
def behS (l : List Stp) (i : Nat) (m : Mk) (j : Nat) : Sta := fin (startOf (l.drop (i + 1))) (nBits (-m.wr) j)
def behB (l : List Stp) (i : Nat) (m : Mk) (j : Nat) : Int := run (l.drop (i + 1)) (-m.wr) / 2 ^ j % 2
def behO (l : List Stp) (i : Nat) (m : Mk) : Nat → Option D := fun j => some (.tup [.int (behB l i m j), staD (behS l i m (j + 1))])
theorem wr_all (m : Mk) (j : Nat) : -m.wr / 2 ^ j % 2 = m.wr := by
  have h : m.wr = 0 ∨ m.wr = 1 := by cases m <;> simp [Mk.wr]
  rcases h with h | h <;> rw [h]
  · simp
  · have : (-1 : Int) / 2 ^ j = -1 := by
      have p0 : (0 : Int) < 2 ^ j := Int.pow_pos (by decide)
      exact Int.ediv_eq_iff_of_pos p0 |>.mpr ⟨by omega, by omega⟩
    rw [this]; rfl
theorem beh_next (l : List Stp) (i : Nat) (m : Mk) (j : Nat) : rdB (behS l i m j) m.wr = (behB l i m j, behS l i m (j + 1)) := by
  have e : nBits (-m.wr) (j + 1) = nBits (-m.wr) j ++ [m.wr] := by rw [nBits_snoc, wr_all]
  have e2 : behS l i m (j + 1) = (rdB (behS l i m j) m.wr).2 := by
    unfold behS
    rw [e, fin_app]; rfl
  refine Prod.ext ?_ e2.symm
  have w1 := wrt_bits (l.drop (i + 1)) (-m.wr) (j + 1)
  have w0 := wrt_bits (l.drop (i + 1)) (-m.wr) j
  rw [e, wrt_app, w0, nBits_snoc] at w1
  have := List.append_cancel_left w1
  injection this with h _
theorem beh_len (l : List Stp) (i : Nat) (m : Mk) (j : Nat) : (behS l i m j).2.length ≤ l.length := by
  have h1 := fin_len (nBits (-m.wr) j) (startOf (l.drop (i + 1)))
  have h2 := start_len (l.drop (i + 1))
  rw [List.length_drop] at h2
  unfold behS
  omega
def sp_states_behind : DGsp := fun xs out => ∃ (l : List Stp) (i : Nat) (m : Mk), xs = [stD l, .int i] ∧ l.length ≤ 1000000 ∧ l[i]? = some (.mk m) ∧ out = behO l i m
theorem len_states_behind (xs : List D) (out : Nat → Option D) : sp_states_behind xs out → xs.length = 2 := by
  rintro ⟨_, _, _, rfl, _⟩; rfl
/-! #### written_while -/
structure sp_written_while (C1 C2 C3 : Addr) (xs : List D) (M : Mp) (Q : DK) (E : XD) : Prop where
  ex : ∃ d e f, xs = [d, e, f] ∧ okT M d ∧ (tyD M e).isSome = true ∧ (tyD M f).isSome = true ∧ (∀ l, d = stD l → l.length ≤ 100000) ∧
    (∀ l i m p, d = stD l → e = .int (i : Nat) → l[i]? = some (.mk m) → f = .int (p : Nat) → p ≤ 200 → Q (.int (valL (nBits (run (l.drop (i + 1)) (-m.wr)) p))) M) ∧
    (isStepsD d = false → E (.ref C1) none M) ∧ (∀ l, d = stD l → isMaskIx (l.map Stp.d) e = false → E (.ref C2) none M) ∧ (∀ l, d = stD l → isMaskIx (l.map Stp.d) e = true → isIntD f (.int 0) (.int 200) = false → E (.ref C3) none M)
theorem len_written_while {C1 C2 C3 : Addr} (xs : List D) (M : Mp) (Q : DK) (E : XD) : sp_written_while C1 C2 C3 xs M Q E → xs.length = 3 := by
  rintro ⟨_, _, _, rfl, _⟩; rfl
theorem sp_written_while_ok {C1 C2 C3 : Addr} {l : List Stp} {i p : Nat} {m : Mk} {M : Mp} {Q : DK} {E : XD} (hl : l.length ≤ 100000) (hm : l[i]? = some (.mk m)) (hp : p ≤ 200) (q : Q (.int (valL (nBits (run (l.drop (i + 1)) (-m.wr)) p))) M) : sp_written_while C1 C2 C3 [stD l, .int i, .int p] M Q E := by
  refine ⟨_, _, _, rfl, okT_st (by omega), rfl, rfl, fun l' e => by rw [← stD_inj e]; exact hl, fun l' i' m' p' e1 e2 e3 e4 e5 => ?_, fun e => (by rw [isSteps_st] at e; cases e), fun l' e1 e => ?_, fun l' e1 e2 e => ?_⟩
  · have e1 := stD_inj e1
    subst e1
    injection e2 with e2
    injection e4 with e4
    have e2 : i = i' := by omega
    have e4 : p = p' := by omega
    subst e2 e4
    rw [hm] at e3
    cases e3
    exact q
  · rw [← stD_inj e1, isMaskIx_of hm] at e; cases e
  · simp [isIntD, leB, geB] at e; omega
/-! #### _law_joined p -/
structure sp__law_joined_p (xs : List D) (M : Mp) (Q : DK) (E : XD) : Prop where
  ex : ∃ (ps : List Prt), xs = [.lst (prtD ps)] ∧ ps.length ≤ 100000 ∧ Q (stD (mgd (ps.map (·.2)))) M
theorem len__law_joined_p (xs : List D) (M : Mp) (Q : DK) (E : XD) : sp__law_joined_p xs M Q E → xs.length = 1 := by
  rintro ⟨_, rfl, _⟩; rfl
theorem sp__law_joined_p_ok {ps : List Prt} {M : Mp} {Q : DK} {E : XD} (h : ps.length ≤ 100000) (q : Q (stD (mgd (ps.map (·.2)))) M) : sp__law_joined_p [.lst (prtD ps)] M Q E := ⟨ps, rfl, h, q⟩
/-! #### _law_tails q -/
theorem beh_nf (l : List Stp) (i : Nat) (m : Mk) (j : Nat) : behB l i m j = (nfB m.wr (snf (behS l i m j))).1 ∧ snf (behS l i m (j + 1)) = (nfB m.wr (snf (behS l i m j))).2 := by
  have h := rdB_nf (behS l i m j) m.wr
  rw [beh_next] at h
  exact h
theorem snf_stepsOf (s : Sta) : snf s = nf (stepsOf s) := by rw [stepsOf, nf_mgd, nf_staL]
/-- from here on nothing changes -/
theorem beh_stays {l : List Stp} {i : Nat} {m : Mk} {j : Nat} (h : stepsOf (behS l i m (j + 1)) = stepsOf (behS l i m j)) : ∀ t, j ≤ t → snf (behS l i m t) = snf (behS l i m j) ∧ stepsOf (behS l i m t) = stepsOf (behS l i m j) ∧ behB l i m t = behB l i m j := by
  have h1 : snf (behS l i m (j + 1)) = snf (behS l i m j) := by rw [snf_stepsOf, h, ← snf_stepsOf]
  have key : ∀ d, snf (behS l i m (j + d)) = snf (behS l i m j) := fun d => by
    induction d with
    | zero => rfl
    | succ d ih =>
      rw [← Nat.add_assoc, (beh_nf l i m (j + d)).2, ih, ← (beh_nf l i m j).2, h1]
  intro t ht
  obtain ⟨d, rfl⟩ : ∃ d, t = j + d := ⟨t - j, by omega⟩
  exact ⟨key d, stepsOf_congr (key d), by rw [(beh_nf l i m (j + d)).1, (beh_nf l i m j).1, key d]⟩
/-- what _law_tails tells: n tails, the last one stays -/
structure TailsOk (l : List Stp) (i : Nat) (m : Mk) (n : Nat) : Prop where
  pos : 1 ≤ n
  le : n ≤ 400
  first : ∀ t, t + 1 < n → stepsOf (behS l i m (t + 1)) ≠ stepsOf (behS l i m t)
  last : stepsOf (behS l i m n) = stepsOf (behS l i m (n - 1)) ∨ (n = 400 ∧ stepsOf (behS l i m n) ≠ stepsOf (behS l i m (n - 1)))
def tailsD (l : List Stp) (i : Nat) (m : Mk) (n : Nat) : List D := (List.range n).map fun t => stD (stepsOf (behS l i m t))
theorem tailsD_succ (l : List Stp) (i : Nat) (m : Mk) (n : Nat) : tailsD l i m (n + 1) = tailsD l i m n ++ [stD (stepsOf (behS l i m n))] := by
  unfold tailsD; rw [List.range_succ, List.map_append]; rfl
theorem tailsD_len (l : List Stp) (i : Nat) (m : Mk) (n : Nat) : (tailsD l i m n).length = n := by unfold tailsD; rw [List.length_map, List.length_range]
def behW (l : List Stp) (i : Nat) (m : Mk) (n : Nat) : List Int := nBits (run (l.drop (i + 1)) (-m.wr)) n
structure sp__law_tails_q (xs : List D) (M : Mp) (Q : DK) (E : XD) : Prop where
  ex : ∃ (l : List Stp) (i : Nat) (m : Mk), xs = [stD l, .int i] ∧ l.length ≤ 1000 ∧ l[i]? = some (.mk m) ∧ ∀ n, TailsOk l i m n → Q (.tup [.lst (tailsD l i m n), .str (wordS (behW l i m n))]) M
theorem len__law_tails_q (xs : List D) (M : Mp) (Q : DK) (E : XD) : sp__law_tails_q xs M Q E → xs.length = 2 := by
  rintro ⟨_, _, _, rfl, _⟩; rfl
theorem sp__law_tails_q_ok {l : List Stp} {i : Nat} {m : Mk} {M : Mp} {Q : DK} {E : XD} (hl : l.length ≤ 1000) (hm : l[i]? = some (.mk m)) (q : ∀ n, TailsOk l i m n → Q (.tup [.lst (tailsD l i m n), .str (wordS (behW l i m n))]) M) : sp__law_tails_q [stD l, .int i] M Q E := ⟨l, i, m, rfl, hl, hm, q⟩
/-! #### _law_places q -/
structure sp__law_places_q (xs : List D) (M : Mp) (Q : DK) (E : XD) : Prop where
  ex : ∃ (l : List Stp), xs = [stD l] ∧ l.length ≤ 1000 ∧ Q (.lst ((mIdx 0 l).map idN)) M
theorem len__law_places_q (xs : List D) (M : Mp) (Q : DK) (E : XD) : sp__law_places_q xs M Q E → xs.length = 1 := by
  rintro ⟨_, rfl, _⟩; rfl
theorem sp__law_places_q_ok {l : List Stp} {M : Mp} {Q : DK} {E : XD} (hl : l.length ≤ 1000) (q : Q (.lst ((mIdx 0 l).map idN)) M) : sp__law_places_q [stD l] M Q E := ⟨l, rfl, hl, q⟩
theorem mIdx_get : ∀ (l : List Stp) (a : Nat), ∀ x ∈ mIdx a l, a ≤ x ∧ ∃ m, l[x - a]? = some (.mk m)
  | [], _, x, h => by cases h
  | .mk m :: r, a, x, h => by
    rcases List.mem_cons.mp h with rfl | h
    · exact ⟨Nat.le_refl _, m, by rw [Nat.sub_self]; rfl⟩
    · obtain ⟨h1, m', h2⟩ := mIdx_get r (a + 1) x h
      refine ⟨by omega, m', ?_⟩
      have : x - a = (x - (a + 1)) + 1 := by omega
      rw [this, List.getElem?_cons_succ]; exact h2
  | .add k :: r, a, x, h => by
    obtain ⟨h1, m', h2⟩ := mIdx_get r (a + 1) x h
    refine ⟨by omega, m', ?_⟩
    have : x - a = (x - (a + 1)) + 1 := by omega
    rw [this, List.getElem?_cons_succ]; exact h2
/-! #### _law_value w -/
structure sp__law_value_w (xs : List D) (M : Mp) (Q : DK) (E : XD) : Prop where
  ex : ∃ (bs : List Int), xs = [.str (wordS bs)] ∧ bs.length ≤ 1000 ∧ (∀ b ∈ bs, b = 0 ∨ b = 1) ∧ Q (.int (valL bs)) M
theorem len__law_value_w (xs : List D) (M : Mp) (Q : DK) (E : XD) : sp__law_value_w xs M Q E → xs.length = 1 := by
  rintro ⟨_, rfl, _⟩; rfl
theorem sp__law_value_w_ok {bs : List Int} {M : Mp} {Q : DK} {E : XD} (h : bs.length ≤ 1000) (h01 : ∀ b ∈ bs, b = 0 ∨ b = 1) (q : Q (.int (valL bs)) M) : sp__law_value_w [.str (wordS bs)] M Q E := ⟨bs, rfl, h, h01, q⟩
/-! #### tails_of -/
/-- n tails, then nothing new -/
structure TailEnd (l : List Stp) (i : Nat) (m : Mk) (n : Nat) : Prop where
  pos : 1 ≤ n
  first : ∀ t, t + 1 < n → stepsOf (behS l i m (t + 1)) ≠ stepsOf (behS l i m t)
  last : stepsOf (behS l i m n) = stepsOf (behS l i m (n - 1))
theorem TailEnd.uniq {l : List Stp} {i : Nat} {m : Mk} {n n' : Nat} (h : TailEnd l i m n) (h' : TailEnd l i m n') : n = n' := by
  have := h.pos
  have := h'.pos
  rcases Nat.lt_trichotomy n n' with z | z | z
  · refine absurd h.last ?_
    have := h'.first (n - 1) (by omega)
    rwa [show n - 1 + 1 = n by omega] at this
  · exact z
  · refine absurd h'.last ?_
    have := h.first (n' - 1) (by omega)
    rwa [show n' - 1 + 1 = n' by omega] at this
theorem beh_stable {l : List Stp} {i : Nat} (m : Mk) {B : Nat} (hs : ∀ s ∈ l, s.lt B) {t : Nat} (h1 : 1 ≤ B) (ht : B + 2 * l.length + 1 ≤ t) : behS l i m (t + 1) = behS l i m t := by
  have hw : (-m.wr).natAbs < 2 ^ B := by
    have h : m.wr = 0 ∨ m.wr = 1 := by cases m <;> simp [Mk.wr]
    have : 2 ^ 1 ≤ 2 ^ B := Nat.pow_le_pow_right (by decide) h1
    rcases h with h | h <;> rw [h] <;> simp <;> omega
  unfold behS
  rw [fin_nI, fin_nI, fltI_stable (l.drop (i + 1)) (-m.wr) B 0 t (fun s h => hs s (List.mem_of_mem_drop h)) (Nat.le_refl _) hw (by rw [List.length_drop]; omega)]
/-- there is an end -/
theorem tail_end {l : List Stp} {i : Nat} (m : Mk) {B : Nat} (hs : ∀ s ∈ l, s.lt B) (h1 : 1 ≤ B) : ∃ n, TailEnd l i m n ∧ n ≤ B + 2 * l.length + 2 := by
  have key : ∀ N, (∃ n, TailEnd l i m n ∧ n ≤ N) ∨ ∀ t, t < N → stepsOf (behS l i m (t + 1)) ≠ stepsOf (behS l i m t) := by
    intro N
    induction N with
    | zero => exact .inr fun t h => by omega
    | succ N ih =>
      rcases ih with ⟨n, h, hn⟩ | h
      · exact .inl ⟨n, h, by omega⟩
      · by_cases z : stepsOf (behS l i m (N + 1)) = stepsOf (behS l i m N)
        · exact .inl ⟨N + 1, ⟨by omega, fun t ht => h t (by omega), z⟩, by omega⟩
        · refine .inr fun t ht => ?_
          by_cases q : t = N
          · rw [q]; exact z
          · exact h t (by omega)
  rcases key (B + 2 * l.length + 2) with h | h
  · exact h
  · exact absurd (by rw [beh_stable m hs h1 (Nat.le_refl _)]) (h (B + 2 * l.length + 1) (by omega))
def tailO (l : List Stp) (i : Nat) (m : Mk) (n : Nat) : Nat → Option D := fun j => if j < n then some (stD (stepsOf (behS l i m j))) else none
def sp_tails_of : DGsp := fun xs out => ∃ (l : List Stp) (i : Nat) (m : Mk) (n : Nat), xs = [stD l, .int i] ∧ l.length ≤ 100000 ∧ l[i]? = some (.mk m) ∧ TailEnd l i m n ∧ out = tailO l i m n
theorem len_tails_of (xs : List D) (out : Nat → Option D) : sp_tails_of xs out → xs.length = 2 := by
  rintro ⟨_, _, _, _, rfl, _⟩; rfl
/-! #### settled_at -/
theorem tailO_all {l : List Stp} {i : Nat} {m : Mk} {n : Nat} : ∀ j, j ≤ (tailsD l i m n).length → tailO l i m n j = (tailsD l i m n)[j]? := fun j _ => by
  unfold tailO tailsD
  rw [List.getElem?_map]
  by_cases h : j < n
  · rw [if_pos h, List.getElem?_range h]; rfl
  · rw [if_neg h, List.getElem?_eq_none (by rw [List.length_range]; omega)]; rfl
structure sp_settled_at (xs : List D) (M : Mp) (Q : DK) (E : XD) : Prop where
  ex : ∃ (l : List Stp) (i : Nat) (m : Mk) (n : Nat), xs = [stD l, .int i] ∧ l.length ≤ 100000 ∧ l[i]? = some (.mk m) ∧ TailEnd l i m n ∧ n ≤ 100000 ∧ Q (.int ((n : Int) - 1)) M
theorem len_settled_at (xs : List D) (M : Mp) (Q : DK) (E : XD) : sp_settled_at xs M Q E → xs.length = 2 := by
  rintro ⟨_, _, _, _, rfl, _⟩; rfl
theorem sp_settled_at_ok {l : List Stp} {i : Nat} {m : Mk} {n : Nat} {M : Mp} {Q : DK} {E : XD} (hl : l.length ≤ 100000) (hm : l[i]? = some (.mk m)) (he : TailEnd l i m n) (hn : n ≤ 100000) (q : Q (.int ((n : Int) - 1)) M) : sp_settled_at [stD l, .int i] M Q E := ⟨l, i, m, n, rfl, hl, hm, he, hn, q⟩
/-! #### tail_after -/
structure sp_tail_after (C : Addr) (xs : List D) (M : Mp) (Q : DK) (E : XD) : Prop where
  ex : ∃ (l : List Stp) (i : Nat) (m : Mk) (n : Nat) (f : D), xs = [stD l, .int i, f] ∧ l.length ≤ 100000 ∧ l[i]? = some (.mk m) ∧ TailEnd l i m n ∧ n ≤ 100000 ∧ (tyD M f).isSome = true ∧
    (isIntD f (.int 0) .non = false → E (.ref C) none M) ∧ ∀ p : Nat, f = .int p → Q (stD (stepsOf (behS l i m (if p ≤ n - 1 then p else n - 1)))) M
theorem len_tail_after {C : Addr} (xs : List D) (M : Mp) (Q : DK) (E : XD) : sp_tail_after C xs M Q E → xs.length = 3 := by
  rintro ⟨_, _, _, _, _, rfl, _⟩; rfl
theorem sp_tail_after_ok {C : Addr} {l : List Stp} {i p : Nat} {m : Mk} {n : Nat} {M : Mp} {Q : DK} {E : XD} (hl : l.length ≤ 100000) (hm : l[i]? = some (.mk m)) (he : TailEnd l i m n) (hn : n ≤ 100000) (q : Q (stD (stepsOf (behS l i m (if p ≤ n - 1 then p else n - 1)))) M) : sp_tail_after C [stD l, .int i, .int p] M Q E := by
  refine ⟨l, i, m, n, _, rfl, hl, hm, he, hn, rfl, fun e => ?_, fun p' e => ?_⟩
  · simp [isIntD, leB, geB] at e
  · injection e with e
    have e : p = p' := by omega
    subst e; exact q
/-- the law's tails are all of them -/
theorem TailsOk.all {l : List Stp} {i : Nat} {m : Mk} {n : Nat} (h : TailsOk l i m n) (hl : l.length ≤ 20) (hs : ∀ s ∈ l, s.lt 100) : TailEnd l i m n ∧ n ≤ 142 := by
  obtain ⟨n', h', hn'⟩ := tail_end (i := i) m hs (by decide)
  have e : TailEnd l i m n := by
    rcases h.last with z | ⟨z, _⟩
    · exact ⟨h.pos, h.first, z⟩
    · refine absurd h'.last ?_
      have hp := h'.pos
      have := h.first (n' - 1) (by omega)
      rwa [show n' - 1 + 1 = n' by omega] at this
  exact ⟨e, by rw [e.uniq h']; omega⟩
theorem tail_rp {l : List Stp} {i : Nat} {m : Mk} (hl : l.length ≤ 20) (hs : ∀ s ∈ l, s.lt 100) {t : Nat} (ht : t ≤ 200) : RpOk (.tuple ((stepsOf (behS l i m t)).map Stp.pd)) 1 (41 * 2002 + 4) := by
  obtain ⟨h1, h2⟩ := rest_ok (l := l.drop (i + 1)) (n := 20) (by rw [List.length_drop]; omega) (Nat.le_refl _) (fun s h => hs s (List.mem_of_mem_drop h)) ht (-m.wr)
  exact rp_st (fun s h => (h1 s h).mono (by decide)) h2
end Lt
namespace Lt
open PySem PySem.Spec PyProof.Rows L2
def topS (i : Nat) : Stmt := PySem.Challenge.pw_lowtricks_k16_tails_after_any_number_of.main.body.getD i (.Pass ⟨0, 0, 0, 0⟩)
section
variable {P : Program} {w : World} {K : PySem.W.Frag} {mg : Str → Option Value} {base : Heap}
/-! ### is_integer -/
abbrev s_is_integer : Stmt := topS 8
abbrev N_is_integer : List Str := ["value", "least", "most"]
theorem sc_is_integer : FnScope N_is_integer ["value", "least", "most"] (defScope s_is_integer) := ⟨rfl, rfl, rfl, by decide +kernel, rfl, by decide +kernel, by decide +kernel⟩
theorem c_is_integer {f : Addr} {fd : FuncData} (F : Fun K "is_integer" "is_integer" s_is_integer f fd) (hmg : mg "is_integer" = some (.ref f))
    (m_isinstance : mg "isinstance" = none)
    (m_bool : mg "bool" = none)
    (m_int : mg "int" = none) : Callee P w K mg base "is_integer" 1 ["value", "least", "most"] sp_is_integer := by
  refine callee_mk (k := 0) F hmg sc_is_integer (fun _ _ _ _ _ _ us hl => match us, hl with | [_, _, _], _ => rfl) (len_is_integer) fun cdv A outer s HH EE M0 xs M Q E hr tk h => ?_
  obtain ⟨d, lo, hi, rfl, hd, hlo, hhi, q⟩ := h
  refine ⟨_, (ss_cons (s_if (dt_w (dw_or (dt_not (dt_val (d_isi (T := "int") (by decide) (by rfl) m_isinstance (by rfl) m_int (by decide +kernel) (d_var 0)))) (dw_or1 (dt_val (d_isi (T := "bool") (by decide) (by rfl) m_isinstance (by rfl) m_bool (by decide +kernel) (d_var 0)))))) (ss_one (s_ret d_bl)) ss_nil)
      (ss_one (s_ret (d_and (d_or (d_cmp o_is (d_var 1) d_non) (d_one (d_cmp o_ge (d_var 0) (d_var 1)))) (d_one (d_or (d_cmp o_is (d_var 2) d_non) (d_one (d_cmp o_le (d_var 0) (d_var 2))))))))), ?_⟩
  cases d with
  | int i =>
    match lo, hi, hlo, hhi, q with
    | .non, .non, _, _, q => exact q
    | .int l, .non, _, _, q =>
      have q : Q (.bl (decide (l ≤ i) && true)) M := q
      refine ifP (fun e => ?_) (fun e => ?_)
      · rw [decide_eq_true e] at q; exact q
      · rw [decide_eq_false e] at q; exact q
    | .non, .int h, _, _, q => exact q
    | .int l, .int h, _, _, q =>
      have q : Q (.bl (decide (l ≤ i) && decide (i ≤ h))) M := q
      refine ifP (fun e => ?_) (fun e => ?_)
      · rw [decide_eq_true e] at q; exact q
      · rw [decide_eq_false e] at q; exact q
  | bl b => exact q
  | non => exact q
  | str x => exact q
  | tup x => exact q
  | lst x => exact q
  | scr x => exact q
  | dct x y => exact q
  | ty x => cases hd
  | dcl x y => cases hd
  | dn w x y => cases hd
  | ref a =>
    have hd : ((match M a with | some (.lst _) => some "list" | _ => none) : Option String).isSome = true := hd
    match e : M a, hd with
    | some (.lst l), _ =>
      have e2 : tyD M (.ref a) = some "list" := by show (match M a with | some (.lst _) => some "list" | _ => none) = _; rw [e]
      show (match tyD M (.ref a) with | some s => _ | none => False)
      rw [e2]
      exact q

/-! ### is_mask -/
abbrev s_is_mask : Stmt := topS 9
abbrev N_is_mask : List Str := ["value"]
theorem sc_is_mask : FnScope N_is_mask ["value"] (defScope s_is_mask) := ⟨rfl, rfl, rfl, by decide +kernel, rfl, by decide +kernel, by decide +kernel⟩
theorem c_is_mask {f : Addr} {fd : FuncData} (F : Fun K "is_mask" "is_mask" s_is_mask f fd) (hmg : mg "is_mask" = some (.ref f))
    (m_isinstance : mg "isinstance" = none)
    (m_str : mg "str" = none)
    (t_TRIGGERS : WTab w K mg "TRIGGERS" tab_TRIGGERS) : Callee P w K mg base "is_mask" 1 ["value"] sp_is_mask := by
  refine callee_mk (k := 0) F hmg sc_is_mask (fun _ _ _ _ _ _ us hl => match us, hl with | [_], _ => rfl) (len_is_mask) fun cdv A outer s HH EE M0 xs M Q E hr tk h => ?_
  obtain ⟨d, rfl, hd, q⟩ := h
  refine ⟨_, (ss_one (s_ret (d_and (d_isi (T := "str") (by decide) (by rfl) m_isinstance (by rfl) m_str (by decide +kernel) (d_var 0)) (d_one (d_tabIn t_TRIGGERS (by rfl) (d_var 0)))))), ?_⟩
  cases d with
  | ref a =>
    have hd : ((match M a with | some (.lst _) => some "list" | _ => none) : Option String).isSome = true := hd
    match e : M a, hd with
    | some (.lst l), _ =>
      have e2 : tyD M (.ref a) = some "list" := by show (match M a with | some (.lst _) => some "list" | _ => none) = _; rw [e]
      show (match tyD M (.ref a) with | some s => _ | none => False)
      rw [e2]
      exact q
  | ty x => cases hd
  | dcl x y => cases hd
  | dn w x y => cases hd
  | _ => exact q

/-! ### is_step -/
abbrev s_is_step : Stmt := topS 10
abbrev N_is_step : List Str := ["value"]
theorem sc_is_step : FnScope N_is_step ["value"] (defScope s_is_step) := ⟨rfl, rfl, rfl, by decide +kernel, rfl, by decide +kernel, by decide +kernel⟩
theorem c_is_step {f : Addr} {fd : FuncData} (F : Fun K "is_step" "is_step" s_is_step f fd) (hmg : mg "is_step" = some (.ref f))
    (C_is_mask : Callee P w K mg base "is_mask" 1 ["value"] sp_is_mask)
    (C_is_integer : Callee P w K mg base "is_integer" 1 ["value", "least", "most"] sp_is_integer) : Callee P w K mg base "is_step" 2 ["value"] sp_is_step := by
  refine callee_mk (k := 1) F hmg sc_is_step (fun _ _ _ _ _ _ us hl => match us, hl with | [_], _ => rfl) (len_is_step) fun cdv A outer s HH EE M0 xs M Q E hr tk h => ?_
  obtain ⟨d, rfl, hd, q⟩ := h
  refine ⟨_, (ss_one (s_ret (d_or (d_call C_is_integer (hr.mono (by decide)) (by rfl) tk (da_cons (d_var 0) (da_cons d_non (da_cons d_non da_nil)))) (d_one (d_call C_is_mask (hr.mono (by decide)) (by rfl) tk (da_cons (d_var 0) da_nil)))))), ?_⟩
  refine ⟨d, .non, .non, rfl, hd, trivial, trivial, ?_⟩
  refine ifB (fun e => ?_) (fun e => ?_)
  · unfold isStepD at q
    rw [e] at q
    exact q
  · refine ⟨d, rfl, hd, ?_⟩
    unfold isStepD at q
    rw [e] at q
    exact q

/-! ### is_steps -/
abbrev s_is_steps : Stmt := topS 11
abbrev N_is_steps : List Str := ["value", "step"]
theorem sc_is_steps : FnScope N_is_steps ["value"] (defScope s_is_steps) := ⟨rfl, rfl, rfl, by decide +kernel, rfl, by decide +kernel, by decide +kernel⟩
theorem c_is_steps {f : Addr} {fd : FuncData} (F : Fun K "is_steps" "is_steps" s_is_steps f fd) (hmg : mg "is_steps" = some (.ref f))
    (m_all : mg "all" = none)
    (m_isinstance : mg "isinstance" = none)
    (m_tuple : mg "tuple" = none)
    (C_is_step : Callee P w K mg base "is_step" 2 ["value"] sp_is_step) : Callee P w K mg base "is_steps" 3 ["value"] sp_is_steps := by
  refine callee_mk (k := 2) F hmg sc_is_steps (fun _ _ _ _ _ _ us hl => match us, hl with | [_], _ => rfl) (len_is_steps) fun cdv A outer s HH EE M0 xs M Q E hr tk h => ?_
  obtain ⟨d, rfl, ⟨hd, ht⟩, q⟩ := h.ex
  refine ⟨_, (ss_one (s_ret (d_and (d_isi (T := "tuple") (by decide) (by rfl) m_isinstance (by rfl) m_tuple (by decide +kernel) (d_var 0)) (d_one (d_callB (c_all rfl) (by rfl) m_all (by decide +kernel) (da_cons (d_lc (own := [("step", 1)]) (g := .one 1) rfl sc_is_steps.nd (i_seq (d_var 0)) (blkOk_by (N := N_is_steps) (sc := defScope s_is_steps) (by decide +kernel)) (fun _ _ _ _ _ => (g_one (i := 1) sc_is_steps.nd rfl (.inl rfl))) (fun _ _ _ _ _ _ _ => dts_nil) (fun _ _ _ _ _ _ _ => (d_call C_is_step (hr.mono (by decide)) (by rfl) wish0 (da_cons (d_var 1) da_nil)))) da_nil)))))), ?_⟩
  cases d with
  | tup ds =>
    obtain ⟨hl, hi⟩ := ht ds rfl
    refine dComp_inv (fun i acc M' => acc = (ds.take i).map (fun d => .bl (isStepD d)) ∧ M' = M) ⟨rfl, rfl⟩ (fun i x acc M2 R hx ⟨e1, e2⟩ hR => ?_) (fun acc M2 ⟨e1, e2⟩ => ?_)
    · subst e1 e2
      have hx' := List.mem_of_getElem? hx
      have hlt := (List.getElem?_eq_some_iff.mp hx).1
      refine ⟨x, rfl, hi x hx', ?_⟩
      refine ⟨?_, hR _ _ ⟨?_, rfl⟩⟩
      · rw [List.length_map, List.length_take]
        exact Nat.lt_of_le_of_lt (Nat.min_le_left _ _) (Nat.lt_of_lt_of_le hlt (Nat.le_trans hl (by decide)))
      · rw [List.take_add_one, hx, List.map_append]
        rfl
    · subst e1 e2
      rw [List.take_length]
      refine ⟨ds.map isStepD, by rw [List.map_map]; rfl, ?_⟩
      have e : ((ds.map isStepD).all id) = ds.all isStepD := by rw [List.all_map]; rfl
      show Q (.bl ((ds.map isStepD).all id)) M2
      rw [e]
      exact q
  | ref a =>
    have hd : ((match M a with | some (.lst _) => some "list" | _ => none) : Option String).isSome = true := hd
    match e : M a, hd with
    | some (.lst l), _ =>
      have e2 : tyD M (.ref a) = some "list" := by show (match M a with | some (.lst _) => some "list" | _ => none) = _; rw [e]
      show (match tyD M (.ref a) with | some s => _ | none => False)
      rw [e2]
      exact q
  | ty x => cases hd
  | dcl x y => cases hd
  | dn w x y => cases hd
  | _ => exact q

/-! ### need_steps -/
abbrev s_need_steps : Stmt := topS 12
abbrev N_need_steps : List Str := ["value"]
theorem sc_need_steps : FnScope N_need_steps ["value"] (defScope s_need_steps) := ⟨rfl, rfl, rfl, by decide +kernel, rfl, by decide +kernel, by decide +kernel⟩
theorem c_need_steps {f : Addr} {fd : FuncData} {E_InvalidSteps : Addr} (F : Fun K "need_steps" "need_steps" s_need_steps f fd) (hmg : mg "need_steps" = some (.ref f))
    (X_InvalidSteps : ExcC K mg "InvalidSteps" E_InvalidSteps)
    (C_is_steps : Callee P w K mg base "is_steps" 3 ["value"] sp_is_steps) : Callee P w K mg base "need_steps" 4 ["value"] (sp_need_steps E_InvalidSteps) := by
  refine callee_mk (k := 3) F hmg sc_need_steps (fun _ _ _ _ _ _ us hl => match us, hl with | [_], _ => rfl) (len_need_steps) fun cdv A outer s HH EE M0 xs M Q E hr tk h => ?_
  obtain ⟨d, rfl, hd, q1, q2⟩ := h.ex
  refine ⟨_, (ss_one (s_if (dt_not (dt_val (d_call C_is_steps (hr.mono (by decide)) (by rfl) tk (da_cons (d_var 0) da_nil)))) (ss_one (s_raise X_InvalidSteps (by rfl) rfl tk)) ss_nil)), ?_⟩
  refine ⟨d, rfl, hd, ?_⟩
  exact ifNB (fun e => q2 e) fun e => q1 e

/-! ### need_mask_index -/
abbrev s_need_mask_index : Stmt := topS 13
abbrev N_need_mask_index : List Str := ["steps", "value"]
theorem sc_need_mask_index : FnScope N_need_mask_index ["steps", "value"] (defScope s_need_mask_index) := ⟨rfl, rfl, rfl, by decide +kernel, rfl, by decide +kernel, by decide +kernel⟩
theorem c_need_mask_index {f : Addr} {fd : FuncData} {E_InvalidIndex : Addr} (F : Fun K "need_mask_index" "need_mask_index" s_need_mask_index f fd) (hmg : mg "need_mask_index" = some (.ref f))
    (m_len : mg "len" = none)
    (X_InvalidIndex : ExcC K mg "InvalidIndex" E_InvalidIndex)
    (C_is_mask : Callee P w K mg base "is_mask" 1 ["value"] sp_is_mask)
    (C_is_integer : Callee P w K mg base "is_integer" 1 ["value", "least", "most"] sp_is_integer) : Callee P w K mg base "need_mask_index" 2 ["steps", "value"] (sp_need_mask_index E_InvalidIndex) := by
  refine callee_mk (k := 1) F hmg sc_need_mask_index (fun _ _ _ _ _ _ us hl => match us, hl with | [_, _], _ => rfl) (len_need_mask_index) fun cdv A outer s HH EE M0 xs M Q E hr tk h => ?_
  obtain ⟨ds, e, rfl, hl, ht, he, q1, q2⟩ := h
  refine ⟨_, (ss_one (s_if (dt_w (dw_or (dt_not (dt_val (d_call C_is_integer (hr.mono (by decide)) (by rfl) tk (da_cons (d_var 1) (da_cons d_int (da_cons (d_op o_sub (d_callB c_len (by rfl) m_len (by decide +kernel) (da_cons (d_var 0) da_nil)) d_int) da_nil)))))) (dw_or1 (dt_not (dt_val (d_call C_is_mask (hr.mono (by decide)) (by rfl) tk (da_cons (d_ix (d_var 0) (d_var 1)) da_nil))))))) (ss_one (s_raise X_InvalidIndex (by rfl) rfl tk)) ss_nil)), ?_⟩
  refine ⟨e, .int 0, .int (ds.length - 1), rfl, he, trivial, trivial, ?_⟩
  refine ifNB (fun h => ?_) (fun h => ?_)
  · refine q2 ?_
    cases e with
    | int i =>
      have h : (decide (0 ≤ i) && decide (i ≤ (ds.length : Int) - 1)) = false := h
      unfold isMaskIx
      dsimp only
      rw [h]; rfl
    | _ => rfl
  · cases e with
    | int i =>
      have h : (decide (0 ≤ i) && decide (i ≤ (ds.length : Int) - 1)) = true := h
      have h2 := h
      rw [Bool.and_eq_true] at h2
      have h0 := of_decide_eq_true h2.1
      have h1 := of_decide_eq_true h2.2
      have hi : i.toNat < ds.length := by omega
      have ex : isMaskIx ds (.int i) = isMaskD ds[i.toNat] := by
        unfold isMaskIx
        dsimp only
        rw [h, List.getElem?_eq_getElem hi]; rfl
      rw [ex] at q1 q2
      refine ⟨ds[i.toNat], at_j i.toNat (by omega) (List.getElem?_eq_getElem hi), ds[i.toNat], rfl, ht _ (List.getElem_mem hi), ?_⟩
      exact ifNB (fun e => q2 e) fun e => q1 e
    | _ => cases h

/-! ### merged_steps -/
abbrev s_merged_steps : Stmt := topS 14
abbrev N_merged_steps : List Str := ["steps", "found", "shift", "step"]
theorem sc_merged_steps : FnScope N_merged_steps ["steps"] (defScope s_merged_steps) := ⟨rfl, rfl, rfl, by decide +kernel, rfl, by decide +kernel, by decide +kernel⟩
theorem c_merged_steps {f : Addr} {fd : FuncData} (F : Fun K "merged_steps" "merged_steps" s_merged_steps f fd) (hmg : mg "merged_steps" = some (.ref f))
    (m_tuple : mg "tuple" = none)
    (C_is_mask : Callee P w K mg base "is_mask" 1 ["value"] sp_is_mask) : Callee P w K mg base "merged_steps" 2 ["steps"] sp_merged_steps := by
  refine callee_mk (k := 1) F hmg sc_merged_steps (fun _ _ _ _ _ _ us hl => match us, hl with | [_], _ => rfl) (len_merged_steps) fun cdv A outer s HH EE M0 xs M Q E hr tk h => ?_
  obtain ⟨d, l, rfl, hd, hl, q⟩ := h.ex
  refine ⟨_, (ss_cons (s_par (i := 1) (j := 2) rfl sc_merged_steps.nd rfl rfl (by decide) rfl rfl (da_cons (d_lst da_nil) (da_cons d_int da_nil)) (by rfl))
      (ss_cons (s_for (passes_of rfl) rfl (i_seq (d_var 0)) (g_one (i := 3) sc_merged_steps.nd rfl (.inl rfl)) (ss_one (s_if (dt_val (d_call C_is_mask (hr.mono (by decide)) (by rfl) tk (da_cons (d_var 3) da_nil))) (ss_cons (s_set (i := 1) sc_merged_steps.nd rfl (.inl rfl) (d_op o_add (d_var 1) (d_if (dt_cmp (o_ne hr.units) (d_var 2) d_int) (d_lst (da_cons (d_var 2) (da_cons (d_var 3) da_nil))) (d_lst (da_cons (d_var 3) da_nil)))))
      (ss_one (s_set (i := 2) sc_merged_steps.nd rfl (.inl rfl) d_int))) (ss_one (s_set (i := 2) sc_merged_steps.nd rfl (.inl rfl) (d_op o_add (d_var 2) (d_var 3)))))))
      (ss_one (s_ret (d_callTy c_tuple (by rfl) m_tuple (by decide +kernel) (da_cons (d_if (dt_cmp (o_ne hr.units) (d_var 2) d_int) (d_op o_add (d_var 1) (d_lst (da_cons (d_var 2) da_nil))) (d_var 1)) da_nil)))))), ?_⟩
  rcases hd with rfl | rfl
  all_goals
    refine ⟨by decide, ?_⟩
    refine dLoop_inv (fun i ds M' => ∃ d0 t f sh, ds = [d0, some (.lst (f.map Stp.d)), some (.int sh), t] ∧ M' = M ∧ f.length ≤ 2 * i ∧ mgA f sh (l.drop i) = mgd l) ⟨_, none, [], 0, rfl, rfl, Nat.le_refl _, rfl⟩ (fun i d ds M' N hd ⟨d0, t, f, sh, e1, e2, hf, hm⟩ hN => ?_) (fun ds M' ⟨d0, t, f, sh, e1, e2, hf, hm⟩ => ?_)
    · subst e1 e2
      rw [List.getElem?_map] at hd
      cases hs : l[i]? with
      | none => rw [hs] at hd; cases hd
      | some s =>
        rw [hs] at hd
        cases hd
        have hi := (List.getElem?_eq_some_iff.mp hs).1
        rw [List.drop_eq_getElem_cons hi, (List.getElem?_eq_some_iff.mp hs).2] at hm
        have hsz : (f.map Stp.d).length + 2 ≤ sizeLine := by rw [List.length_map]; exact Nat.le_trans (show f.length + 2 ≤ 2000002 by omega) (by decide)
        cases s with
        | mk m =>
          rw [mgA] at hm
          refine ⟨.str m.st, rfl, rfl, ?_⟩
          refine ifB (fun _ => ?_) (fun h => by rw [isMask_mk] at h; cases h)
          refine ifN (fun h => ?_) fun h => ?_
          · rw [if_pos h] at hm
            refine ⟨(show 2 ≤ sizeLine by decide), hsz, hN _ _ ⟨_, _, f ++ [.add sh, .mk m], 0, by rw [List.map_append]; rfl, rfl, by rw [List.length_append]; simp; omega, hm⟩⟩
          · rw [if_neg (fun z => z h)] at hm
            refine ⟨(show 1 ≤ sizeLine by decide), (Nat.le_of_succ_le hsz), hN _ _ ⟨_, _, f ++ [.mk m], 0, by rw [List.map_append]; rfl, rfl, by rw [List.length_append]; simp; omega, hm⟩⟩
        | add k =>
          rw [mgA] at hm
          refine ⟨.int k, rfl, rfl, ?_⟩
          exact hN _ _ ⟨_, _, f, sh + k, rfl, rfl, by omega, hm⟩
    · subst e1 e2
      rw [List.length_map, List.drop_length, mgA] at hm
      have hf2 : f.length ≤ 2000000 := Nat.le_trans hf (by rw [List.length_map]; omega)
      refine ifN (fun h => ?_) fun h => ?_
      · rw [if_pos h] at hm
        refine ⟨(show 1 ≤ sizeLine by decide), by rw [List.length_map]; exact Nat.le_trans (Nat.add_le_add_right hf2 1) (by decide), ?_⟩
        rw [← hm, stD, List.map_append] at q
        exact q
      · rw [if_neg (fun z => z h)] at hm
        rw [← hm] at q
        exact q

/-! ### start_of -/
abbrev s_start_of : Stmt := topS 16
abbrev N_start_of : List Str := ["steps", "shift", "parts", "index", "step"]
theorem sc_start_of : FnScope N_start_of ["steps"] (defScope s_start_of) := ⟨rfl, rfl, rfl, by decide +kernel, rfl, by decide +kernel, by decide +kernel⟩
theorem c_start_of {f : Addr} {fd : FuncData} (F : Fun K "start_of" "start_of" s_start_of f fd) (hmg : mg "start_of" = some (.ref f))
    (m_tuple : mg "tuple" = none)
    (m_enumerate : mg "enumerate" = none)
    (C_is_mask : Callee P w K mg base "is_mask" 1 ["value"] sp_is_mask) : Callee P w K mg base "start_of" 2 ["steps"] sp_start_of := by
  refine callee_mk (k := 1) F hmg sc_start_of (fun _ _ _ _ _ _ us hl => match us, hl with | [_], _ => rfl) (len_start_of) fun cdv A outer s HH EE M0 xs M Q E hr tk h => ?_
  obtain ⟨l, rfl, hl, q⟩ := h.ex
  refine ⟨_, (ss_cons (s_set (i := 1) sc_start_of.nd rfl (.inl rfl) d_int)
      (ss_cons (s_set (i := 2) sc_start_of.nd rfl (.inl rfl) (d_lstM da_nil))
      (ss_cons (s_for (passes_of rfl) rfl (i_enum (by rfl) m_enumerate (d_var 0)) (g_many (is := [3, 4]) rfl (pgs_cons (pg_name (i := 3) sc_start_of.nd rfl (.inl rfl)) (pgs_cons (pg_name (i := 4) sc_start_of.nd rfl (.inl rfl)) pgs_nil))) (ss_one (s_if (dt_val (d_call C_is_mask (hr.mono (by decide)) (by rfl) tk (da_cons (d_var 4) da_nil))) (ss_one (s_expr (d_append (d_var 2) (d_tup (da_cons (d_var 3) (da_cons (d_var 4) (da_cons d_int da_nil))))))) (ss_one (s_if (dt_cmp (o_eq hr.units) (d_var 2) (d_lst da_nil)) (ss_one (s_set (i := 1) sc_start_of.nd rfl (.inl rfl) (d_op o_add (d_var 1) (d_var 4)))) (ss_one (s_putL (d_tup (da_cons (d_ix (d_ix (d_var 2) (d_neg d_int)) d_int) (da_cons (d_ix (d_ix (d_var 2) (d_neg d_int)) d_int) (da_cons (d_op o_add (d_ix (d_ix (d_var 2) (d_neg d_int)) d_int) (d_var 4)) da_nil)))) (d_var 2) (d_neg d_int))))))))
      (ss_frz 2 (ss_one (s_ret (d_tup (da_cons (d_var 1) (da_cons (d_callTy c_tuple (by rfl) m_tuple (by decide +kernel) (da_cons (d_var 2) da_nil)) da_nil))))))))), ?_⟩
  refine ⟨by decide, fun p hp => ?_⟩
  refine dLoop_inv (fun i ds M' => ∃ t3 t4 sh ps, ds = [some (stD l), some (.int sh), some (.ref p), t3, t4] ∧ M' = mup M p (.lst (ps.map partD)) ∧ ps.length ≤ i ∧ stA i sh ps (l.drop i) = startOf l) ⟨none, none, 0, [], rfl, rfl, Nat.le_refl _, rfl⟩ (fun i d ds M' N hd ⟨t3, t4, sh, ps, e1, e2, hps, hst⟩ hN => ?_) (fun ds M' ⟨t3, t4, sh, ps, e1, e2, hps, hst⟩ => ?_)
  · subst e1 e2
    obtain ⟨e, he, rfl⟩ := enumD_at hd
    rw [List.getElem?_map] at he
    cases hc : l[i]? with
    | none => rw [hc] at he; cases he
    | some s =>
      rw [hc] at he
      cases he
      have hi := (List.getElem?_eq_some_iff.mp hc).1
      rw [List.drop_eq_getElem_cons hi, (List.getElem?_eq_some_iff.mp hc).2] at hst
      have hz : (ps.map partD).length < sizeLine := by
        rw [List.length_map]
        exact Nat.lt_of_le_of_lt (show _ ≤ 1000000 by omega) (by decide)
      cases s with
      | mk m =>
        rw [stA] at hst
        refine ⟨rfl, .str m.st, rfl, rfl, ?_⟩
        refine ifB (fun _ => ?_) (fun h => by rw [isMask_mk] at h; cases h)
        refine ⟨_, mup_same, (show 3 ≤ sizeLine by decide), _, mup_same, hz, ?_⟩
        rw [mup_mup]
        exact hN _ _ ⟨_, _, sh, ps ++ [(i, m, 0)], rfl, by rw [List.map_append]; rfl, by simp; omega, hst⟩
      | add k =>
        rw [stA] at hst
        refine ⟨rfl, .int k, rfl, rfl, (show 0 ≤ sizeLine by decide), _, _, pdT_ref mup_same (pds_parts _ _), rfl, shaped_parts ps, by decide +kernel, ?_⟩
        refine ifB (fun h => ?_) (fun h => ?_)
        · have h : ps.isEmpty = true := (eqv_nil ps).symm.trans h
          rw [if_pos h] at hst
          exact hN _ _ ⟨_, _, sh + k, ps, rfl, rfl, by omega, hst⟩
        · have h : ps.isEmpty = false := (eqv_nil ps).symm.trans h
          rw [if_neg (by rw [h]; decide)] at hst
          obtain ⟨g, pt, rfl⟩ := snoc_of h
          rw [addL_snoc] at hst
          have eL : (g ++ [pt]).map partD = g.map partD ++ [partD pt] := by rw [List.map_append]; rfl
          rw [eL]
          have ea := at_last (g.map partD) (partD pt)
          refine ⟨_, _, mup_same, ea, _, rfl, _, _, mup_same, ea, _, rfl, _, _, mup_same, ea, _, rfl, (show 3 ≤ sizeLine by decide), _, g.length, mup_same, ?_, ?_⟩
          · rw [List.length_append, List.length_singleton, List.length_map]; exact ix_last
          · rw [mup_mup, ← List.length_map (f := partD), set_last]
            exact hN _ _ ⟨_, _, sh, g ++ [(pt.1, pt.2.1, pt.2.2 + k)], rfl, by rw [List.map_append]; rfl, by simp at hps ⊢; omega, hst⟩
  · subst e1 e2
    rw [enumD_len, List.length_map] at hst hps
    rw [List.drop_length, stA] at hst
    refine ⟨_, mup_same, (show 2 ≤ sizeLine by decide), ?_⟩
    rw [mrm_mup hp]
    rw [← hst] at q
    exact q

/-! ### read_bit -/
abbrev s_read_bit : Stmt := topS 17
abbrev N_read_bit : List Str := ["state", "bit", "total", "found", "ahead", "signal", "index", "mask", "number", "ends"]
theorem sc_read_bit : FnScope N_read_bit ["state", "bit"] (defScope s_read_bit) := ⟨rfl, rfl, rfl, by decide +kernel, rfl, by decide +kernel, by decide +kernel⟩
theorem c_read_bit {f : Addr} {fd : FuncData} (F : Fun K "read_bit" "read_bit" s_read_bit f fd) (hmg : mg "read_bit" = some (.ref f))
    (m_tuple : mg "tuple" = none)
    (t_WRITTEN_BITS : WTab w K mg "WRITTEN_BITS" tab_WRITTEN_BITS)
    (t_TRIGGERS : WTab w K mg "TRIGGERS" tab_TRIGGERS) : Callee P w K mg base "read_bit" 1 ["state", "bit"] sp_read_bit := by
  refine callee_mk (k := 0) F hmg sc_read_bit (fun _ _ _ _ _ _ us hl => match us, hl with | [_, _], _ => rfl) (len_read_bit) fun cdv A outer s HH EE M0 xs M Q E hr tk h => ?_
  obtain ⟨s0, b, rfl, hl, q⟩ := h.ex
  refine ⟨_, (ss_cons (s_set (i := 2) sc_read_bit.nd rfl (.inl rfl) (d_op o_add (d_ix (d_var 0) d_int) (d_var 1)))
      (ss_cons (s_set (i := 3) sc_read_bit.nd rfl (.inl rfl) (d_lstM da_nil))
      (ss_cons (s_par (i := 4) (j := 5) rfl sc_read_bit.nd rfl rfl (by decide) rfl rfl (da_cons (d_op o_fdiv (d_var 2) d_int) (da_cons (d_op o_mod (d_var 2) d_int) da_nil)) (by rfl))
      (ss_cons (s_for (passes_of rfl) rfl (i_seq (d_ix (d_var 0) d_int)) (g_many (is := [6, 7, 8]) rfl (pgs_cons (pg_name (i := 6) sc_read_bit.nd rfl (.inl rfl)) (pgs_cons (pg_name (i := 7) sc_read_bit.nd rfl (.inl rfl)) (pgs_cons (pg_name (i := 8) sc_read_bit.nd rfl (.inl rfl)) pgs_nil)))) (ss_cons (s_set (i := 9) sc_read_bit.nd rfl (.inl rfl) (d_cmp (o_eq hr.units) (d_var 5) (d_tabIx t_TRIGGERS (by rfl) (d_var 7))))
      (ss_cons (s_set (i := 2) sc_read_bit.nd rfl (.inl rfl) (d_op o_add (d_var 8) (d_tabIx t_WRITTEN_BITS (by rfl) (d_var 7))))
      (ss_cons (s_set (i := 5) sc_read_bit.nd rfl (.inl rfl) (d_op o_mod (d_var 2) d_int))
      (ss_one (s_if (dt_not (dt_val (d_var 9))) (ss_one (s_expr (d_append (d_var 3) (d_tup (da_cons (d_var 6) (da_cons (d_var 7) (da_cons (d_op o_fdiv (d_var 2) d_int) da_nil))))))) (ss_one (s_if (dt_cmp (o_eq hr.units) (d_var 3) (d_lst da_nil)) (ss_one (s_set (i := 4) sc_read_bit.nd rfl (.inl rfl) (d_op o_add (d_var 4) (d_op o_fdiv (d_var 2) d_int)))) (ss_one (s_putL (d_tup (da_cons (d_ix (d_ix (d_var 3) (d_neg d_int)) d_int) (da_cons (d_ix (d_ix (d_var 3) (d_neg d_int)) d_int) (da_cons (d_op o_add (d_ix (d_ix (d_var 3) (d_neg d_int)) d_int) (d_op o_fdiv (d_var 2) d_int)) da_nil)))) (d_var 3) (d_neg d_int)))))))))))
      (ss_frz 3 (ss_one (s_ret (d_tup (da_cons (d_var 5) (da_cons (d_tup (da_cons (d_var 4) (da_cons (d_callTy c_tuple (by rfl) m_tuple (by decide +kernel) (da_cons (d_var 3) da_nil)) da_nil))) da_nil)))))))))), ?_⟩
  refine ⟨_, rfl, by decide, fun p hp => ?_⟩
  have z2 : ∀ k : Int, CDivW k 2 := fun k => wide_div (b := 2) (by decide) (by decide) (by decide) (by decide)
  refine ⟨z2 _, (show (0 : Int) < 2 by decide), _, rfl, ?_⟩
  refine dLoop_inv (fun i ds M' => ∃ t2 t6 t7 t8 t9 sg ah f, ds = [some (staD s0), some (.int b), t2, some (.ref p), some (.int ah), some (.int sg), t6, t7, t8, t9] ∧ M' = mup M p (.lst (f.map partD)) ∧ f.length ≤ i ∧ rdA sg ah f (s0.2.drop i) = rdA ((s0.1 + b) % 2) ((s0.1 + b) / 2) [] s0.2) ⟨_, none, none, none, none, _, _, [], rfl, rfl, Nat.le_refl _, rfl⟩ (fun i d ds M' N hd ⟨t2, t6, t7, t8, t9, sg, ah, f, e1, e2, hf, hr'⟩ hN => ?_) (fun ds M' ⟨t2, t6, t7, t8, t9, sg, ah, f, e1, e2, hf, hr'⟩ => ?_)
  · subst e1 e2
    rw [List.getElem?_map] at hd
    cases hc : s0.2[i]? with
    | none => rw [hc] at hd; cases hd
    | some pt =>
      rw [hc] at hd
      cases hd
      have hi := (List.getElem?_eq_some_iff.mp hc).1
      rw [List.drop_eq_getElem_cons hi, (List.getElem?_eq_some_iff.mp hc).2, rdA] at hr'
      have hz : (f.map partD).length < sizeLine := by
        rw [List.length_map]
        exact Nat.lt_of_le_of_lt (show _ ≤ 1000000 by omega) (by decide)
      refine ⟨rfl, _, trig_get pt.2.1, _, wr_get pt.2.1, (show (0 : Int) < 2 by decide), ?_⟩
      refine ifN (fun ht => ?_) fun ht => ?_
      · rw [if_neg ht] at hr'
        refine ⟨_, mup_same, z2 _, (show 3 ≤ sizeLine by decide), _, mup_same, hz, ?_⟩
        rw [mup_mup]
        exact hN _ _ ⟨_, _, _, _, _, _, ah, f ++ [(pt.1, pt.2.1, (pt.2.2 + pt.2.1.wr) / 2)], rfl, by rw [List.map_append]; rfl, by simp; omega, hr'⟩
      · rw [if_pos ht] at hr'
        refine ⟨(show 0 ≤ sizeLine by decide), _, _, pdT_ref mup_same (pds_parts _ _), rfl, shaped_parts f, by decide +kernel, ?_⟩
        refine ifB (fun h => ?_) (fun h => ?_)
        · have h : f.isEmpty = true := (eqv_nil f).symm.trans h
          rw [if_pos h] at hr'
          exact ⟨z2 _, hN _ _ ⟨_, _, _, _, _, _, _, f, rfl, rfl, by omega, hr'⟩⟩
        · have h : f.isEmpty = false := (eqv_nil f).symm.trans h
          rw [if_neg (by rw [h]; decide)] at hr'
          obtain ⟨g, lt, rfl⟩ := snoc_of h
          rw [addL_snoc] at hr'
          have eL : (g ++ [lt]).map partD = g.map partD ++ [partD lt] := by rw [List.map_append]; rfl
          rw [eL]
          have ea := at_last (g.map partD) (partD lt)
          refine ⟨_, _, mup_same, ea, _, rfl, _, _, mup_same, ea, _, rfl, _, _, mup_same, ea, _, rfl, z2 _, (show 3 ≤ sizeLine by decide), _, g.length, mup_same, ?_, ?_⟩
          · rw [List.length_append, List.length_singleton, List.length_map]; exact ix_last
          · rw [mup_mup, ← List.length_map (f := partD), set_last]
            exact hN _ _ ⟨_, _, _, _, _, _, ah, g ++ [(lt.1, lt.2.1, lt.2.2 + (pt.2.2 + pt.2.1.wr) / 2)], rfl, by rw [List.map_append]; rfl, by simp at hf ⊢; omega, hr'⟩
  · subst e1 e2
    rw [List.length_map, List.drop_length, rdA] at hr'
    have e : rdB s0 b = (sg, (ah, f)) := by
      show ((rdA _ _ [] s0.2).1, ((rdA _ _ [] s0.2).2.1, (rdA _ _ [] s0.2).2.2)) = _
      rw [← hr']
    rw [e] at q
    refine ⟨_, mup_same, (show 2 ≤ sizeLine by decide), (show 2 ≤ sizeLine by decide), ?_⟩
    rw [mrm_mup hp]
    exact q

/-! ### steps_of -/
abbrev s_steps_of : Stmt := topS 18
abbrev N_steps_of : List Str := ["state", "shift", "parts", "found", "index", "mask", "number"]
theorem sc_steps_of : FnScope N_steps_of ["state"] (defScope s_steps_of) := ⟨rfl, rfl, rfl, by decide +kernel, rfl, by decide +kernel, by decide +kernel⟩
theorem c_steps_of {f : Addr} {fd : FuncData} (F : Fun K "steps_of" "steps_of" s_steps_of f fd) (hmg : mg "steps_of" = some (.ref f))
    (C_merged_steps : Callee P w K mg base "merged_steps" 2 ["steps"] sp_merged_steps) : Callee P w K mg base "steps_of" 3 ["state"] sp_steps_of := by
  refine callee_mk (k := 2) F hmg sc_steps_of (fun _ _ _ _ _ _ us hl => match us, hl with | [_], _ => rfl) (len_steps_of) fun cdv A outer s HH EE M0 xs M Q E hr tk h => ?_
  obtain ⟨s0, rfl, hl, q⟩ := h.ex
  refine ⟨_, (ss_cons (s_asg (d_var 0) (g_many (is := [1, 2]) rfl (pgs_cons (pg_name (i := 1) sc_steps_of.nd rfl (.inl rfl)) (pgs_cons (pg_name (i := 2) sc_steps_of.nd rfl (.inl rfl)) pgs_nil))))
      (ss_cons (s_set (i := 3) sc_steps_of.nd rfl (.inl rfl) (d_lstM (da_cons (d_var 1) da_nil)))
      (ss_cons (s_for (passes_of rfl) rfl (i_seq (d_var 2)) (g_many (is := [4, 5, 6]) rfl (pgs_cons (pg_name (i := 4) sc_steps_of.nd rfl (.inl rfl)) (pgs_cons (pg_name (i := 5) sc_steps_of.nd rfl (.inl rfl)) (pgs_cons (pg_name (i := 6) sc_steps_of.nd rfl (.inl rfl)) pgs_nil)))) (ss_one (s_expr (d_extend (d_var 3) (d_lst (da_cons (d_var 5) (da_cons (d_var 6) da_nil)))))))
      (ss_frz 3 (ss_one (s_ret (d_call C_merged_steps (hr.mono (by decide)) (by rfl) tk (da_cons (d_var 3) da_nil)))))))), ?_⟩
  refine ⟨rfl, (show 1 ≤ sizeLine by decide), fun p hp => ?_⟩
  refine dLoop_inv (fun i ds M' => ∃ t1 t2 t3, ds = [some (staD s0), some (.int s0.1), some (.tup (s0.2.map partD)), some (.ref p), t1, t2, t3] ∧ M' = mup M p (.lst ((staL (s0.1, s0.2.take i)).map Stp.d))) ⟨none, none, none, rfl, rfl⟩ (fun i d ds M' N hd ⟨t1, t2, t3, e1, e2⟩ hN => ?_) (fun ds M' ⟨t1, t2, t3, e1, e2⟩ => ?_)
  · subst e1 e2
    rw [List.getElem?_map] at hd
    cases hc : s0.2[i]? with
    | none => rw [hc] at hd; cases hd
    | some pt =>
      rw [hc] at hd
      cases hd
      have hi := (List.getElem?_eq_some_iff.mp hc).1
      have e3 : (staL (s0.1, s0.2.take (i + 1))).map Stp.d = (staL (s0.1, s0.2.take i)).map Stp.d ++ [.str pt.2.1.st, .int pt.2.2] := by
        show (Stp.add s0.1 :: (s0.2.take (i + 1)).flatMap fun p => [Stp.mk p.2.1, .add p.2.2]).map Stp.d = _
        rw [List.take_add_one, hc, List.flatMap_append, ← List.cons_append, List.map_append]
        rfl
      refine ⟨rfl, _, mup_same, (show 2 ≤ sizeLine by decide), _, mup_same, ?_, ?_⟩
      · rw [List.length_map, staL_len, List.length_take]
        exact Nat.le_trans (show _ ≤ 200003 by simp; omega) (by decide)
      · rw [mup_mup]
        exact hN _ _ ⟨_, _, _, rfl, by rw [e3]⟩
  · subst e1 e2
    rw [List.length_map, List.take_length]
    refine ⟨_, mup_same, ?_⟩
    refine sp_merged_steps_l (by rw [staL_len]; simp; omega) ?_
    rw [mrm_mup hp]
    exact q

/-! ### need_place -/
abbrev s_need_place : Stmt := topS 19
abbrev N_need_place : List Str := ["value", "most"]
theorem sc_need_place : FnScope N_need_place ["value", "most"] (defScope s_need_place) := ⟨rfl, rfl, rfl, by decide +kernel, rfl, by decide +kernel, by decide +kernel⟩
theorem c_need_place {f : Addr} {fd : FuncData} {E_InvalidPlace : Addr} (F : Fun K "need_place" "need_place" s_need_place f fd) (hmg : mg "need_place" = some (.ref f))
    (X_InvalidPlace : ExcC K mg "InvalidPlace" E_InvalidPlace)
    (C_is_integer : Callee P w K mg base "is_integer" 1 ["value", "least", "most"] sp_is_integer) : Callee P w K mg base "need_place" 2 ["value", "most"] (sp_need_place E_InvalidPlace) := by
  refine callee_mk (k := 1) F hmg sc_need_place (fun _ _ _ _ _ _ us hl => match us, hl with | [_, _], _ => rfl) (len_need_place) fun cdv A outer s HH EE M0 xs M Q E hr tk h => ?_
  obtain ⟨d, m, rfl, hd, hm, q1, q2⟩ := h
  refine ⟨_, (ss_one (s_if (dt_not (dt_val (d_call C_is_integer (hr.mono (by decide)) (by rfl) tk (da_cons (d_var 0) (da_cons d_int (da_cons (d_var 1) da_nil)))))) (ss_one (s_raise X_InvalidPlace (by rfl) rfl tk)) ss_nil)), ?_⟩
  refine ⟨d, .int 0, m, rfl, hd, trivial, hm, ?_⟩
  exact ifNB (fun e => q2 e) fun e => q1 e

/-! ### states_behind -/
abbrev s_states_behind : Stmt := topS 21
abbrev N_states_behind : List Str := ["steps", "index", "state", "signal", "written"]
theorem sc_states_behind : GScope N_states_behind ["steps", "index"] (defScope s_states_behind) := ⟨rfl, rfl, rfl, by decide +kernel, rfl, by decide +kernel, by decide +kernel⟩
theorem c_states_behind {f : Addr} {fd : FuncData} (F : Fun K "states_behind" "states_behind" s_states_behind f fd) (hmg : mg "states_behind" = some (.ref f))
    (t_WRITTEN_BITS : WTab w K mg "WRITTEN_BITS" tab_WRITTEN_BITS)
    (C_start_of : Callee P w K mg base "start_of" 2 ["steps"] sp_start_of)
    (C_read_bit : Callee P w K mg base "read_bit" 1 ["state", "bit"] sp_read_bit) : GenCallee P w K mg base "states_behind" 3 ["steps", "index"] sp_states_behind := by
  refine gen_mk (k := 2) F hmg sc_states_behind (fun _ _ _ _ _ _ us hl => match us, hl with | [_, _], _ => rfl) (fun _ => rfl) (nocell_of (by decide +kernel)) (len_states_behind) fun cdv A outer n0 os g0 a go xs out hr gok h => ?_
  obtain ⟨l, i, m, rfl, hl, hm, rfl⟩ := h
  refine ⟨_, (xs_cons (xs_one (fun _ _ _ _ => (s_par (i := 2) (j := 3) rfl sc_states_behind.nd rfl rfl (by decide) rfl rfl (da_cons (d_call C_start_of (hr.mono (by decide)) (by rfl) wish0 (da_cons (d_sl (d_var 0) (do_some (d_op o_add (d_var 1) d_int)) do_none) da_nil)) (da_cons (d_tabIx t_WRITTEN_BITS (by rfl) (d_ix (d_var 0) (d_var 1))) da_nil)) (by rfl))))
      (xs_cons (xs_while (fun _ _ _ _ => (dt_val d_bl)) (xs_cons (xs_one (fun _ _ _ _ => (s_asg (d_call C_read_bit (hr.mono (by decide)) (by rfl) wish0 (da_cons (d_var 2) (da_cons (d_var 3) da_nil))) (g_many (is := [4, 2]) rfl (pgs_cons (pg_name (i := 4) sc_states_behind.nd rfl (.inl rfl)) (pgs_cons (pg_name (i := 2) sc_states_behind.nd rfl (.inl rfl)) pgs_nil))))))
      (xs_cons (xs_yield gok (fun _ _ _ _ => (d_tup (da_cons (d_var 4) (da_cons (d_var 2) da_nil)))) rfl rfl)
      xs_nil)))
      xs_nil)), ?_⟩
  intro n0
  have c2 : cutD (l.map Stp.d) (some ((i : Int) + 1)) none = (l.drop (i + 1)).map Stp.d := by
    have := cutD_from (l.map Stp.d) (i + 1)
    rw [← List.map_drop] at this
    exact this
  have e1 : D.tup (cutD (l.map Stp.d) (some ((i : Int) + 1)) none) = stD (l.drop (i + 1)) := by rw [c2]; rfl
  show sp_start_of [D.tup (cutD (l.map Stp.d) (some ((i : Int) + 1)) none)] _ _ _
  rw [e1]
  refine sp_start_of_ok (by rw [List.length_drop]; omega) ?_
  refine ⟨.str m.st, at_j i rfl (by rw [List.getElem?_map, hm]; rfl), _, wr_get m, ?_⟩
  refine ⟨fun k n j ds mm => k = n ∧ mm = noM ∧ ∃ t4, ds = [some (stD l), some (.int i), some (staD (behS l i m j)), some (.int m.wr), t4], ⟨n0, rfl, rfl, none, rfl⟩, fun k n j ds mm ⟨f1, f2, t4, f3⟩ => ?_⟩
  subst f1 f2 f3
  refine sp_read_bit_l (Nat.le_trans (beh_len l i m j) hl) ?_
  rw [beh_next]
  exact ⟨rfl, (show 2 ≤ sizeLine by decide), rfl, rfl, fun n' hn => ⟨n', by omega, rfl, rfl, _, rfl⟩⟩

/-! ### tails_of -/
abbrev s_tails_of : Stmt := topS 22
abbrev N_tails_of : List Str := ["steps", "index", "present", "written", "state", "following"]
theorem sc_tails_of : GScope N_tails_of ["steps", "index"] (defScope s_tails_of) := ⟨rfl, rfl, rfl, by decide +kernel, rfl, by decide +kernel, by decide +kernel⟩
theorem c_tails_of {f : Addr} {fd : FuncData} (F : Fun K "tails_of" "tails_of" s_tails_of f fd) (hmg : mg "tails_of" = some (.ref f))
    (C_need_steps : Callee P w K mg base "need_steps" 4 ["value"] (sp_need_steps E_InvalidSteps))
    (C_need_mask_index : Callee P w K mg base "need_mask_index" 2 ["steps", "value"] (sp_need_mask_index E_InvalidIndex))
    (C_steps_of : Callee P w K mg base "steps_of" 3 ["state"] sp_steps_of)
    (C_start_of : Callee P w K mg base "start_of" 2 ["steps"] sp_start_of)
    (C_states_behind : GenCallee P w K mg base "states_behind" 3 ["steps", "index"] sp_states_behind) : GenCallee P w K mg base "tails_of" 5 ["steps", "index"] sp_tails_of := by
  refine gen_mk (k := 4) F hmg sc_tails_of (fun _ _ _ _ _ _ us hl => match us, hl with | [_, _], _ => rfl) (fun _ => rfl) (nocell_of (by decide +kernel)) (len_tails_of) fun cdv A outer n0 os g0 a go xs out hr gok h => ?_
  obtain ⟨l, i, m, N, rfl, hl, hm, he, rfl⟩ := h
  refine ⟨_, (xs_cons (xs_one (fun _ _ _ _ => (s_expr (d_call C_need_steps (hr.mono (by decide)) (by rfl) wish0 (da_cons (d_var 0) da_nil)))))
      (xs_cons (xs_one (fun _ _ _ _ => (s_expr (d_call C_need_mask_index (hr.mono (by decide)) (by rfl) wish0 (da_cons (d_var 0) (da_cons (d_var 1) da_nil))))))
      (xs_cons (xs_one (fun _ _ _ _ => (s_set (i := 2) sc_tails_of.nd rfl (.inl rfl) (d_call C_steps_of (hr.mono (by decide)) (by rfl) wish0 (da_cons (d_call C_start_of (hr.mono (by decide)) (by rfl) wish0 (da_cons (d_sl (d_var 0) (do_some (d_op o_add (d_var 1) d_int)) do_none) da_nil)) da_nil)))))
      (xs_cons (xs_yield gok (fun _ _ _ _ => (d_var 2)) rfl rfl)
      (xs_cons (xs_forG gok C_states_behind (hr.mono (by decide)) (fun _ _ => by rfl) (fun _ _ _ _ => (da_cons (d_var 0) (da_cons (d_var 1) da_nil))) (fun _ _ => (g_many (is := [3, 4]) rfl (pgs_cons (pg_name (i := 3) sc_tails_of.nd rfl (.inl rfl)) (pgs_cons (pg_name (i := 4) sc_tails_of.nd rfl (.inl rfl)) pgs_nil)))) (xs_cons (xs_one (fun _ _ _ _ => (s_set (i := 5) sc_tails_of.nd rfl (.inl rfl) (d_call C_steps_of (hr.mono (by decide)) (by rfl) wish0 (da_cons (d_var 4) da_nil)))))
      (xs_cons (xs_one (fun _ _ _ _ => (s_if (dt_cmp (o_eq hr.units) (d_var 5) (d_var 2)) (ss_one s_retN) ss_nil)))
      (xs_cons (xs_one (fun _ _ _ _ => (s_set (i := 2) sc_tails_of.nd rfl (.inl rfl) (d_var 5))))
      (xs_cons (xs_yield gok (fun _ _ _ _ => (d_var 2)) rfl rfl)
      xs_nil)))))
      xs_nil))))), ?_⟩
  intro n0
  have c2 : cutD (l.map Stp.d) (some ((i : Int) + 1)) none = (l.drop (i + 1)).map Stp.d := by
    have := cutD_from (l.map Stp.d) (i + 1)
    rw [← List.map_drop] at this
    exact this
  have e1 : D.tup (cutD (l.map Stp.d) (some ((i : Int) + 1)) none) = stD (l.drop (i + 1)) := by rw [c2]; rfl
  refine sp_need_steps_ok (by omega) ?_
  refine ⟨_, _, rfl, by rw [List.length_map]; omega, fun x hx => (by obtain ⟨s, _, rfl⟩ := List.mem_map.mp hx; cases s <;> rfl), rfl, fun _ => ?_, fun e => by rw [isMaskIx_of hm] at e; cases e⟩
  show sp_start_of [D.tup (cutD (l.map Stp.d) (some ((i : Int) + 1)) none)] _ _ _
  rw [e1]
  refine sp_start_of_ok (by rw [List.length_drop]; omega) ?_
  refine sp_steps_of_ok (s := behS l i m 0) (Nat.le_trans (beh_len l i m 0) hl) ?_
  refine ⟨rfl, by unfold tailO; rw [if_pos (by have := he.pos; omega)], fun n1 hn1 => ?_⟩
  refine ⟨behO l i m, ⟨l, i, m, rfl, by omega, hm, rfl⟩, fun q j n k ds M => q = N - j ∧ j < N ∧ k = j + 1 ∧ M = noM ∧ ∃ t3 t4 t5, ds = [some (stD l), some (.int i), some (stD (stepsOf (behS l i m j))), t3, t4, t5], ⟨_, rfl, he.pos, rfl, rfl, none, none, none, rfl⟩, fun q j n k ds M ⟨f1, f2, f3, f4, t3, t4, t5, f5⟩ => ?_⟩
  subst f1 f3 f4 f5
  refine ⟨rfl, ?_⟩
  refine sp_steps_of_ok (s := behS l i m (j + 1)) (Nat.le_trans (beh_len l i m (j + 1)) hl) ?_
  refine ⟨_, _, pdT_st _ _, pdT_st _ _, shaped_st _, shaped_st _, ?_⟩
  have hev := eqv_steps (stepsOf (behS l i m (j + 1))) (stepsOf (behS l i m j))
  refine ifB (fun h => ?_) (fun h => ?_)
  · have hs := of_decide_eq_true (hev.symm.trans h)
    have hj : ¬ j + 1 < N := fun z => he.first j z hs
    refine ⟨rfl, rfl, ?_⟩
    unfold tailO
    rw [if_neg hj]
  · have hs := of_decide_eq_false (hev.symm.trans h)
    have hj : j + 1 < N := by
      refine Classical.byContradiction fun z => hs ?_
      have e : N = j + 1 := by omega
      have := he.last
      rw [e] at this
      exact this
    refine ⟨rfl, by unfold tailO; rw [if_pos hj], fun n2 hn2 => ?_⟩
    exact ⟨N - (j + 1), by omega, rfl, hj, rfl, rfl, _, _, _, rfl⟩

/-! ### settled_at -/
abbrev s_settled_at : Stmt := topS 23
abbrev N_settled_at : List Str := ["steps", "index"]
theorem sc_settled_at : FnScope N_settled_at ["steps", "index"] (defScope s_settled_at) := ⟨rfl, rfl, rfl, by decide +kernel, rfl, by decide +kernel, by decide +kernel⟩
theorem c_settled_at {f : Addr} {fd : FuncData} (F : Fun K "settled_at" "settled_at" s_settled_at f fd) (hmg : mg "settled_at" = some (.ref f))
    (m_len : mg "len" = none)
    (m_list : mg "list" = none)
    (C_tails_of : GenCallee P w K mg base "tails_of" 5 ["steps", "index"] sp_tails_of) : Callee P w K mg base "settled_at" 12 ["steps", "index"] sp_settled_at := by
  refine callee_mk (k := 11) F hmg sc_settled_at (fun _ _ _ _ _ _ us hl => match us, hl with | [_, _], _ => rfl) (len_settled_at) fun cdv A outer s HH EE M0 xs M Q E hr tk h => ?_
  obtain ⟨l, i, m, n, rfl, hl, hm, he, hn, q⟩ := h.ex
  refine ⟨_, (ss_one (s_ret (d_op o_sub (d_callB c_len (by rfl) m_len (by decide +kernel) (da_cons (d_listG C_tails_of (hr.mono (by decide)) (by rfl) rfl (by rfl) m_list (da_cons (d_var 0) (da_cons (d_var 1) da_nil))) da_nil)) d_int))), ?_⟩
  refine ⟨tailO l i m n, tailsD l i m n, ⟨l, i, m, n, rfl, hl, hm, he, rfl⟩, tailO_all, by rw [tailsD_len]; exact Nat.lt_of_le_of_lt hn (by decide), ?_⟩
  show Q (.int (((tailsD l i m n).length : Nat) - 1)) M
  rw [tailsD_len]
  exact q

/-! ### tail_after -/
abbrev s_tail_after : Stmt := topS 24
abbrev N_tail_after : List Str := ["steps", "index", "place", "found"]
theorem sc_tail_after : FnScope N_tail_after ["steps", "index", "place"] (defScope s_tail_after) := ⟨rfl, rfl, rfl, by decide +kernel, rfl, by decide +kernel, by decide +kernel⟩
theorem c_tail_after {f : Addr} {fd : FuncData} (F : Fun K "tail_after" "tail_after" s_tail_after f fd) (hmg : mg "tail_after" = some (.ref f))
    (m_min : mg "min" = none)
    (m_len : mg "len" = none)
    (m_list : mg "list" = none)
    (C_need_place : Callee P w K mg base "need_place" 2 ["value", "most"] (sp_need_place E_InvalidPlace))
    (C_tails_of : GenCallee P w K mg base "tails_of" 5 ["steps", "index"] sp_tails_of) : Callee P w K mg base "tail_after" 12 ["steps", "index", "place"] (sp_tail_after E_InvalidPlace) := by
  refine callee_mk (k := 11) F hmg sc_tail_after (fun _ _ _ _ _ _ us hl => match us, hl with | [_, _, _], _ => rfl) (len_tail_after) fun cdv A outer s HH EE M0 xs M Q E hr tk h => ?_
  obtain ⟨l, i, m, n, f, rfl, hl, hm, he, hn, hf, q1, q⟩ := h.ex
  refine ⟨_, (ss_cons (s_set (i := 3) sc_tail_after.nd rfl (.inl rfl) (d_listG C_tails_of (hr.mono (by decide)) (by rfl) rfl (by rfl) m_list (da_cons (d_var 0) (da_cons (d_var 1) da_nil))))
      (ss_cons (s_expr (d_call C_need_place (hr.mono (by decide)) (by rfl) tk (da_cons (d_var 2) (da_cons d_non da_nil))))
      (ss_one (s_ret (d_ix (d_var 3) (d_callB (c_min2 rfl) (by rfl) m_min (by decide +kernel) (da_cons (d_var 2) (da_cons (d_op o_sub (d_callB c_len (by rfl) m_len (by decide +kernel) (da_cons (d_var 3) da_nil)) d_int) da_nil)))))))), ?_⟩
  refine ⟨tailO l i m n, tailsD l i m n, ⟨l, i, m, n, rfl, hl, hm, he, rfl⟩, tailO_all, by rw [tailsD_len]; exact Nat.lt_of_le_of_lt hn (by decide), ?_⟩
  refine ⟨f, .non, rfl, hf, trivial, fun i3 => ?_, q1⟩
  obtain ⟨p, rfl⟩ : ∃ p : Nat, f = .int (p : Nat) := by
    cases f with
    | int i =>
      refine ⟨i.toNat, ?_⟩
      have : 0 ≤ i := by simpa [isIntD, leB, geB] using i3
      rw [Int.toNat_of_nonneg this]
    | _ => cases i3
  have hp := he.pos
  refine ⟨_, ?_, q p rfl⟩
  show atI (tailsD l i m n) (if ((tailsD l i m n).length : Int) - 1 < (p : Int) then ((tailsD l i m n).length : Int) - 1 else (p : Int)) = _
  rw [tailsD_len]
  have e2 : (if (n : Int) - 1 < (p : Int) then (n : Int) - 1 else (p : Int)) = ((if p ≤ n - 1 then p else n - 1 : Nat) : Int) := by
    by_cases z : p ≤ n - 1
    · rw [if_pos z, if_neg (by omega)]
    · rw [if_neg z, if_pos (by omega)]; omega
  rw [e2]
  refine at_j _ rfl ?_
  unfold tailsD
  rw [List.getElem?_map, List.getElem?_range (by split <;> omega)]; rfl

/-! ### _law_barrel -/
abbrev s__law_barrel : Stmt := topS 26
abbrev N__law_barrel : List Str := ["script", "k", "cell"]
theorem sc__law_barrel : FnScope N__law_barrel ["script", "k"] (defScope s__law_barrel) := ⟨rfl, rfl, rfl, by decide +kernel, rfl, by decide +kernel, by decide +kernel⟩
theorem c__law_barrel {f : Addr} {fd : FuncData} (F : Fun K "_law_barrel" "_law_barrel" s__law_barrel f fd) (hmg : mg "_law_barrel" = some (.ref f))
    (m_max : mg "max" = none)
    (m_len : mg "len" = none) : CalleeG P w K mg base "_law_barrel" 1 ["script", "k"] sp__law_barrel := by
  refine calleeG_mk (k := 0) F hmg sc__law_barrel (fun _ _ _ _ _ _ us hl => match us, hl with | [_, _], _ => rfl) (len__law_barrel) fun cdv A outer s HH EE M0 xs M Q E hgd hr tk h => ?_
  obtain ⟨ns, k, rfl, k0, k1, q⟩ := h
  refine ⟨_, (ss_cons (s_set (i := 2) sc__law_barrel.nd rfl (.inl rfl) d_int)
      (ss_cons (s_if (dt_cmp o_lt (d_var 1) (d_callB c_len (by rfl) m_len (by decide +kernel) (da_cons (d_var 0) da_nil))) (ss_one (s_set (i := 2) sc__law_barrel.nd rfl (.inl rfl) (d_ix (d_var 0) (d_var 1)))) ss_nil)
      (ss_one (s_ret (d_lstM (da_cons (d_callB (c_max2 rfl) (by rfl) m_max (by decide +kernel) (da_cons d_int (da_cons (d_op o_sub (d_var 2) (d_op o_pow d_int d_int)) da_nil))) (da_cons (d_op o_add (d_op o_add (d_op o_mulA (d_op o_mod (d_var 2) (d_op o_add (d_op o_pow d_int d_int) d_int)) d_int) (d_op o_mulA d_int (d_var 1))) d_int) (da_cons d_int da_nil)))))))), ?_⟩
  -- what is handed out
  have fin : ∀ cell : Int, Bar [.int (if cell - 10 ^ (18 : Int).toNat > 0 then cell - 10 ^ (18 : Int).toNat else 0), .int (cell % (10 ^ (38 : Int).toNat + 133) * 512 + 61 * k + 29), .int 0] 0 := fun cell => by
    have h1 := Int.emod_nonneg cell (show (10 ^ (38 : Int).toNat + 133 : Int) ≠ 0 by decide)
    have h2 := Int.emod_lt_of_pos cell (show (0 : Int) < 10 ^ (38 : Int).toNat + 133 by decide)
    have e : (10 ^ (38 : Int).toNat + 133 : Int) = 100000000000000000000000000000000000133 := by decide
    rw [e] at h1 h2 ⊢
    refine ⟨_, _, _, rfl, ?_, by omega, by omega, by omega, by omega⟩
    split <;> omega
  have mul1 : ∀ cell : Int, CMulX (cell % (10 ^ (38 : Int).toNat + 133)) 512 := fun cell => by
    have h1 := Int.emod_nonneg cell (show (10 ^ (38 : Int).toNat + 133 : Int) ≠ 0 by decide)
    have h2 := Int.emod_lt_of_pos cell (show (0 : Int) < 10 ^ (38 : Int).toNat + 133 by decide)
    have e : (10 ^ (38 : Int).toNat + 133 : Int) = 100000000000000000000000000000000000133 := by decide
    rw [e] at h1 h2 ⊢
    exact cmulX 140 10 (by omega) (by decide) (by decide)
  have mul2 : CMulX 61 k := cmulX 10 10 (by decide) (by omega) (by decide)
  refine ifP (fun hk => ?_) (fun hk => ?_)
  · have hn : k.toNat < ns.length := by omega
    refine ⟨ns[k.toNat], at_j k.toNat (by omega) (List.getElem?_eq_getElem hn), ⟨by decide, by decide⟩, ⟨by decide, by decide⟩, (show (0 : Int) < 10 ^ (38 : Int).toNat + 133 by decide), mul1 _, mul2, (show 3 ≤ sizeLine by decide), fun p hp => q p _ hp (fin _)⟩
  · exact ⟨⟨by decide, by decide⟩, ⟨by decide, by decide⟩, (show (0 : Int) < 10 ^ (38 : Int).toNat + 133 by decide), mul1 0, mul2, (show 3 ≤ sizeLine by decide), fun p hp => q p _ hp (fin 0)⟩

/-! ### _law_draw -/
abbrev s__law_draw : Stmt := topS 27
abbrev N__law_draw : List Str := ["barrel", "many", "found", "mixed"]
theorem sc__law_draw : FnScope N__law_draw ["barrel", "many"] (defScope s__law_draw) := ⟨rfl, rfl, rfl, by decide +kernel, rfl, by decide +kernel, by decide +kernel⟩
theorem c__law_draw {f : Addr} {fd : FuncData} (F : Fun K "_law_draw" "_law_draw" s__law_draw f fd) (hmg : mg "_law_draw" = some (.ref f))
     : CalleeG P w K mg base "_law_draw" 1 ["barrel", "many"] sp__law_draw := by
  refine calleeG_mk (k := 0) F hmg sc__law_draw (fun _ _ _ _ _ _ us hl => match us, hl with | [_, _], _ => rfl) (len__law_draw) fun cdv A outer s HH EE M0 xs M Q E hgd hr tk h => ?_
  obtain ⟨b, many, n, l, rfl, m1, m2, hb, ⟨x, y, z, rfl, x0, y0, y1, z0, z1⟩, n1, q⟩ := h
  refine ⟨_, (ss_cons (s_if (dt_cmp o_gt (d_ix (d_var 0) d_int) d_int) (ss_cons (s_set (i := 2) sc__law_draw.nd rfl (.inl rfl) (d_op o_mod (d_ix (d_var 0) d_int) (d_var 1)))
      (ss_cons (s_putL (d_op o_fdiv (d_ix (d_var 0) d_int) (d_var 1)) (d_var 0) d_int)
      (ss_one (s_ret (d_var 2))))) ss_nil)
      (ss_cons (s_putL (d_op o_add (d_ix (d_var 0) d_int) d_int) (d_var 0) d_int)
      (ss_cons (s_set (i := 3) sc__law_draw.nd rfl (.inl rfl) (d_op o_mod (d_op o_pow (d_op o_add (d_ix (d_var 0) d_int) (d_op o_mulA d_int (d_ix (d_var 0) d_int))) d_int) (d_op o_add (d_op o_pow d_int d_int) d_int)))
      (ss_cons (s_set (i := 3) sc__law_draw.nd rfl (.inl rfl) (d_op o_mod (d_op o_add (d_op o_mulA (d_var 3) (d_var 3)) (d_op o_mulA d_int (d_ix (d_var 0) d_int))) (d_op o_add (d_op o_pow d_int d_int) d_int)))
      (ss_one (s_ret (d_op o_mod (d_op o_fdiv (d_var 3) d_int) (d_var 1)))))))), ?_⟩
  refine ⟨_, _, hb, rfl, ?_⟩
  have h10 : (10 ^ (46 : Int).toNat + 9 : Int) = 10000000000000000000000000000000000000000000009 := by decide
  have h11 : (10 ^ (45 : Int).toNat + 9 : Int) = 1000000000000000000000000000000000000000000009 := by decide
  refine ifP (fun hx => ?_) (fun hx => ?_)
  · refine ⟨_, _, hb, rfl, (show (0 : Int) < many by omega), _, _, hb, rfl, wide_div (b := 200) (by omega) (by omega) (by decide) (by decide), _, 0, hb, rfl, ?_⟩
    exact q _ _ (Int.emod_nonneg _ (by omega)) (Int.emod_lt_of_pos _ (by omega)) ⟨_, _, _, rfl, Int.ediv_nonneg (by omega) (by omega), y0, y1, z0, by omega⟩
  · have hz : z + 1 < 2 ^ 61 := by omega
    have hm1 : CMulX 1134903170 (z + 1) := cmulX 40 70 (by decide) (by omega) (by decide)
    have hp : CPowX (y + 1134903170 * (z + 1)) 3 := ⟨by decide, by
      have := PyProof.Rows.intBits_le (a := y + 1134903170 * (z + 1)) (k := 160) (by omega)
      omega⟩
    refine ⟨_, _, hb, rfl, _, 2, hb, rfl, ?_⟩
    refine ⟨_, _, mup_same, rfl, _, _, mup_same, rfl, hm1, hp, ⟨by decide, by decide⟩, (show (0 : Int) < 10 ^ (46 : Int).toNat + 9 by decide), ?_⟩
    have e1 := Int.emod_nonneg ((y + 1134903170 * (z + 1)) ^ (3 : Int).toNat) (show (10 ^ (46 : Int).toNat + 9 : Int) ≠ 0 by decide)
    have e2 := Int.emod_lt_of_pos ((y + 1134903170 * (z + 1)) ^ (3 : Int).toNat) (show (0 : Int) < 10 ^ (46 : Int).toNat + 9 by decide)
    refine ⟨cmulX 160 160 ?_ ?_ (by decide), _, _, mup_same, rfl, cmulX 40 70 (by decide) (by show (z + 1).natAbs < _; omega) (by decide), ⟨by decide, by decide⟩, (show (0 : Int) < 10 ^ (45 : Int).toNat + 9 by decide), ?_⟩
    · show ((y + 1134903170 * (z + 1)) ^ (3 : Int).toNat % (10 ^ (46 : Int).toNat + 9)).natAbs < 2 ^ 160
      rw [h10] at e1 e2 ⊢
      omega
    · show ((y + 1134903170 * (z + 1)) ^ (3 : Int).toNat % (10 ^ (46 : Int).toNat + 9)).natAbs < 2 ^ 160
      rw [h10] at e1 e2 ⊢
      omega
    · refine ⟨wide_div (b := 40) (by decide) (by decide) (by decide) (by decide), (show (0 : Int) < many by omega), ?_⟩
      exact q _ _ (Int.emod_nonneg _ (by omega)) (Int.emod_lt_of_pos _ (by omega)) ⟨_, _, _, rfl, x0, y0, y1, (show 0 ≤ z + 1 by omega), (show z + 1 ≤ n + 1 by omega)⟩

/-! ### _law_some -/
abbrev s__law_some : Stmt := topS 28
abbrev N__law_some : List Str := ["barrel", "most", "way", "found", "many", "turn", "mask", "small", "great", "kind", "some"]
theorem sc__law_some : FnScope N__law_some ["barrel", "most"] (defScope s__law_some) := ⟨rfl, rfl, rfl, by decide +kernel, rfl, by decide +kernel, by decide +kernel⟩
theorem c__law_some {f : Addr} {fd : FuncData} (F : Fun K "_law_some" "_law_some" s__law_some f fd) (hmg : mg "_law_some" = some (.ref f))
    (m_tuple : mg "tuple" = none)
    (m_range : mg "range" = none)
    (C__law_draw : CalleeG P w K mg base "_law_draw" 1 ["barrel", "many"] sp__law_draw) : CalleeG P w K mg base "_law_some" 2 ["barrel", "most"] sp__law_some := by
  refine calleeG_mk (k := 1) F hmg sc__law_some (fun _ _ _ _ _ _ us hl => match us, hl with | [_, _], _ => rfl) (len__law_some) fun cdv A outer s HH EE M0 xs M Q E hgd hr tk h => ?_
  obtain ⟨b, most, n, l, rfl, m0, m1, hb, hl, n1, q⟩ := h.ex
  refine ⟨_, (ss_cons (s_par (i := 2) (j := 3) rfl sc__law_some.nd rfl rfl (by decide) rfl rfl (da_cons (d_callG C__law_draw (hr.mono (by decide)) hgd (by rfl) tk (da_cons (d_var 0) (da_cons d_int da_nil))) (da_cons (d_lstM da_nil) da_nil)) (by rfl))
      (ss_cons (s_set (i := 4) sc__law_some.nd rfl (.inl rfl) (d_ix (d_lst (da_cons (d_callG C__law_draw (hr.mono (by decide)) hgd (by rfl) tk (da_cons (d_var 0) (da_cons (d_op o_add (d_var 1) d_int) da_nil))) (da_cons (d_var 1) da_nil))) (d_op o_fdiv (d_callG C__law_draw (hr.mono (by decide)) hgd (by rfl) tk (da_cons (d_var 0) (da_cons d_int da_nil))) d_int)))
      (ss_cons (s_for (passes_of rfl) rfl (i_range1 (by rfl) m_range (d_var 4)) (g_one (i := 5) sc__law_some.nd rfl (.inl rfl)) (ss_cons (s_par (i := 6) (j := 7) rfl sc__law_some.nd rfl rfl (by decide) rfl rfl (da_cons (d_ix d_str (d_callG C__law_draw (hr.mono (by decide)) hgd (by rfl) tk (da_cons (d_var 0) (da_cons d_int da_nil)))) (da_cons (d_op o_sub (d_callG C__law_draw (hr.mono (by decide)) hgd (by rfl) tk (da_cons (d_var 0) (da_cons d_int da_nil))) d_int) da_nil)) (by rfl))
      (ss_cons (s_set (i := 8) sc__law_some.nd rfl (.inl rfl) (d_op o_mulA (d_ix (d_lst (da_cons d_int (da_cons (d_neg d_int) da_nil))) (d_callG C__law_draw (hr.mono (by decide)) hgd (by rfl) tk (da_cons (d_var 0) (da_cons d_int da_nil)))) (d_callG C__law_draw (hr.mono (by decide)) hgd (by rfl) tk (da_cons (d_var 0) (da_cons (d_op o_add (d_op o_pow d_int d_int) d_int) da_nil)))))
      (ss_cons (s_set (i := 9) sc__law_some.nd rfl (.inl rfl) (d_callG C__law_draw (hr.mono (by decide)) hgd (by rfl) tk (da_cons (d_var 0) (da_cons d_int da_nil))))
      (ss_cons (s_set (i := 10) sc__law_some.nd rfl (.inl rfl) (d_lst (da_cons (d_lst (da_cons (d_var 6) (da_cons (d_var 6) (da_cons (d_var 7) (da_cons (d_var 7) da_nil))))) (da_cons (d_op o_mulA (d_lst (da_cons (d_var 6) da_nil)) d_int) (da_cons (d_lst (da_cons (d_var 6) (da_cons (d_var 7) (da_cons (d_var 8) (da_cons d_int da_nil))))) (da_cons (d_lst (da_cons (d_var 6) (da_cons (d_var 6) (da_cons (d_var 6) (da_cons (d_var 8) da_nil))))) da_nil))))))
      (ss_cons (s_set (i := 10) sc__law_some.nd rfl (.inl rfl) (d_op o_add (d_var 10) (d_lst (da_cons (d_lst (da_cons (d_ix d_str (d_op o_mod (d_var 5) d_int)) (da_cons (d_var 6) (da_cons d_int (da_cons (d_neg d_int) da_nil))))) (da_cons (d_lst (da_cons (d_var 6) (da_cons d_int (da_cons (d_neg d_int) (da_cons (d_var 6) da_nil))))) da_nil)))))
      (ss_one (s_expr (d_append (d_var 3) (d_ix (d_ix (d_var 10) (d_var 2)) (d_var 9)))))))))))
      (ss_frz 3 (ss_one (s_ret (d_callTy c_tuple (by rfl) m_tuple (by decide +kernel) (da_cons (d_var 3) da_nil)))))))), ?_⟩
  refine ⟨b, 6, n, l, rfl, by decide, by decide, hb, hl, by omega, fun way l1 w0 w1 hl1 => ?_⟩
  refine ⟨by decide, fun p hp => ?_⟩
  have hpb : b ≠ p := fun e => by rw [e, mup_same] at hp; cases hp
  have hp0 : M p = none := by rw [mup_ne (Ne.symm hpb)] at hp; exact hp
  refine ⟨b, most + 1, n + 1, l1, rfl, by omega, by omega, mup_lo hpb, hl1, by omega, fun r2 l2 r20 r21 hl2 => ?_⟩
  rw [mup3 hpb]
  refine ⟨(show 2 ≤ sizeLine by decide), b, 4, n + 2, l2, rfl, by decide, by decide, mup_lo hpb, hl2.mono (by omega), by omega, fun r3 l3 r30 r31 hl3 => ?_⟩
  rw [mup3 hpb]
  refine ⟨wide_div (b := 3) (by decide) (by decide) (by decide) (by decide), ?_⟩
  -- many
  have hmany : ∃ d, atI [D.int r2, .int most] (r3 / 3) = some d ∧ ∃ many : Int, d = .int many ∧ 0 ≤ many ∧ many ≤ most := by
    have hd : 0 ≤ r3 / 3 ∧ r3 / 3 < 2 := by omega
    exact at_mem (xs := [D.int r2, .int most]) hd.1 hd.2 (fun x hx => by
      simp only [List.mem_cons, List.not_mem_nil, or_false] at hx
      rcases hx with rfl | rfl
      · exact ⟨_, rfl, by omega, by omega⟩
      · exact ⟨_, rfl, by omega, by omega⟩)
  obtain ⟨d, hd, many, rfl, c0, c1⟩ := hmany
  refine ⟨_, hd, ?_⟩
  refine ⟨by omega, by omega, ?_⟩
  refine dLoop_inv (fun i ds M' => ∃ (sts : List Stp) (l' : List D), ∃ t4 t5 t6 t7 t8 t9, ds = [some (.ref b), some (.int most), some (.int way), some (.ref p), some (.int many), t4, t5, t6, t7, t8, t9] ∧ sts.length = i ∧ (∀ s ∈ sts, s.lt 100) ∧ Bar l' (n + 10 + 6 * i) ∧
      M' = mup (mup M b (.lst l')) p (.lst (sts.map Stp.d)))
    ⟨[], l3, none, none, none, none, none, none, rfl, rfl, fun s hs => (nomatch hs), hl3.mono (by omega), rfl⟩ (fun i d ds M' N hd ⟨sts, l4, t4, t5, t6, t7, t8, t9, e1, e2, hs, hl4, e3⟩ hN => ?_) (fun ds M' ⟨sts, l4, t4, t5, t6, t7, t8, t9, e1, e2, hs, hl4, e3⟩ => ?_)
  · subst e1 e3
    obtain ⟨hi, rfl⟩ := rangeD_get hd
    have hi' : (i : Int) < 100 := by omega
    refine ⟨b, 4, _, l4, rfl, by decide, by decide, mup_lo hpb, hl4, by omega, fun r5 l5 r50 r51 hl5 => ?_⟩
    rw [mup3 hpb]
    obtain ⟨c5, e5, m5, em5⟩ := csft_at r50 r51
    refine ⟨by decide, c5, e5, ?_⟩
    rw [em5]
    refine ⟨b, 9, _, l5, rfl, by decide, by decide, mup_lo hpb, hl5, by omega, fun r6 l6 r60 r61 hl6 => ?_⟩
    rw [mup3 hpb]
    refine ⟨(show 2 ≤ sizeLine by decide), b, 2, _, l6, rfl, by decide, by decide, mup_lo hpb, hl6, by omega, fun r7 l7 r70 r71 hl7 => ?_⟩
    rw [mup3 hpb]
    obtain ⟨d7, e7, g7, rfl, hg7⟩ : ∃ d, atI [D.int 1, D.int (-1)] r7 = some d ∧ ∃ g : Int, d = .int g ∧ g.natAbs ≤ 1 := at_mem (xs := [D.int 1, D.int (-1)]) r70 r71 fun x hx => by
      simp only [List.mem_cons, List.not_mem_nil, or_false] at hx
      rcases hx with rfl | rfl
      · exact ⟨_, rfl, by decide⟩
      · exact ⟨_, rfl, by decide⟩
    refine ⟨_, e7, ⟨by decide, by decide⟩, b, 10 ^ (30 : Int).toNat + 1, _, l7, rfl, by decide, by decide, mup_lo hpb, hl7, by omega, fun r8 l8 r80 r81 hl8 => ?_⟩
    rw [mup3 hpb]
    have e30 : (10 ^ (30 : Int).toNat + 1 : Int) = 1000000000000000000000000000001 := by decide
    rw [e30] at r81
    refine ⟨cmulX 2 100 (by omega) (by omega) (by decide), ?_⟩
    have hgr : (g7 * r8).natAbs < 2 ^ 100 := by
      rw [Int.natAbs_mul]
      have : g7.natAbs * r8.natAbs ≤ 1 * r8.natAbs := Nat.mul_le_mul_right _ hg7
      omega
    generalize g7 * r8 = great at hgr
    refine ⟨b, 4, _, l8, rfl, by decide, by decide, mup_lo hpb, hl8, by omega, fun r9 l9 r90 r91 hl9 => ?_⟩
    rw [mup3 hpb]
    refine ⟨(show 4 ≤ sizeLine by decide), (show 1 ≤ sizeLine by decide), by decide, by decide, (show 1 * (4 : Int).toNat ≤ sizeLine by decide), (show 4 ≤ sizeLine by decide), (show 4 ≤ sizeLine by decide), (show 4 ≤ sizeLine by decide), ?_⟩
    obtain ⟨c10, e10, m10, em10⟩ := cs_at (i := (0 + (i : Int)) % 2) (by omega) (by omega)
    refine ⟨(show (0 : Int) < 2 by decide), by decide, c10, e10, (show 4 ≤ sizeLine by decide), (show 4 ≤ sizeLine by decide), (show 2 ≤ sizeLine by decide), (show 4 + 2 ≤ sizeLine by decide), ?_⟩
    rw [em10]
    refine ⟨_, mup_same, ?_⟩
    have s6 : StpD (.int (r6 - 4)) := .int (by omega)
    have sg : StpD (.int great) := .int hgr
    have s1 : StpD (.int 1) := .int (by decide)
    have s0 : StpD (.int 0) := .int (by decide)
    have sm : StpD (.int (-1)) := .int (by decide)
    have sk := StpD.mk m5
    have sc := StpD.mk m10
    obtain ⟨row, erow, a1, a2, a3, a4, rfl, h1, h2, h3, h4⟩ : ∃ d, atI [D.lst [.str m5.st, .str m5.st, .int (r6 - 4), .int (r6 - 4)], .lst (List.replicate (4 : Int).toNat [D.str m5.st]).flatten, .lst [.str m5.st, .int (r6 - 4), .int great, .int 0],
        .lst [.str m5.st, .str m5.st, .str m5.st, .int great], .lst [.str m10.st, .str m5.st, .int 1, .int (-1)], .lst [.str m5.st, .int 1, .int (-1), .str m5.st]] way = some d ∧ Row4 d := at_mem w0 w1 fun x hx => by
      simp only [List.mem_cons, List.not_mem_nil, or_false] at hx
      rcases hx with rfl | rfl | rfl | rfl | rfl | rfl
      · exact ⟨_, _, _, _, rfl, sk, sk, s6, s6⟩
      · exact ⟨_, _, _, _, rfl, sk, sk, sk, sk⟩
      · exact ⟨_, _, _, _, rfl, sk, s6, sg, s0⟩
      · exact ⟨_, _, _, _, rfl, sk, sk, sk, sg⟩
      · exact ⟨_, _, _, _, rfl, sc, sk, s1, sm⟩
      · exact ⟨_, _, _, _, rfl, sk, s1, sm, sk⟩
    refine ⟨_, erow, ?_⟩
    obtain ⟨d11, e11, st, rfl, hst⟩ : ∃ d, atI [a1, a2, a3, a4] r9 = some d ∧ StpD d := at_mem r90 r91 fun x hx => by
      simp only [List.mem_cons, List.not_mem_nil, or_false] at hx
      rcases hx with rfl | rfl | rfl | rfl
      · exact h1
      · exact h2
      · exact h3
      · exact h4
    refine ⟨_, e11, _, mup_same, ?_, ?_⟩
    · rw [List.length_map, e2]
      exact Nat.lt_of_lt_of_le (show i < 100 by omega) (by decide)
    · rw [mup_mup]
      refine hN _ _ ⟨sts ++ [st], l9, _, _, _, _, _, _, rfl, by rw [List.length_append, e2]; rfl, fun s hs' => ?_, hl9.mono (by omega), by rw [List.map_append]; rfl⟩
      rcases List.mem_append.mp hs' with h | h
      · exact hs s h
      · rw [List.mem_singleton.mp h]; exact hst
  · subst e1 e3
    rw [rangeD_len] at e2
    refine ⟨_, mup_same, ?_⟩
    show Q (.tup (sts.map Stp.d)) (mrm _ p)
    rw [mup_drop hpb hp0]
    exact q sts l4 (by omega) hs (hl4.mono (by rw [rangeD_len]; omega))

/-! ### _law_read -/
abbrev s__law_read : Stmt := topS 29
abbrev N__law_read : List Str := ["mask", "signal", "trigger"]
theorem sc__law_read : FnScope N__law_read ["mask", "signal"] (defScope s__law_read) := ⟨rfl, rfl, rfl, by decide +kernel, rfl, by decide +kernel, by decide +kernel⟩
theorem c__law_read {f : Addr} {fd : FuncData} (F : Fun K "_law_read" "_law_read" s__law_read f fd) (hmg : mg "_law_read" = some (.ref f))
     : CalleeG P w K mg base "_law_read" 1 ["mask", "signal"] sp__law_read_b := by
  refine calleeG_mk (k := 0) F hmg sc__law_read (fun _ _ _ _ _ _ us hl => match us, hl with | [_, _], _ => rfl) (len__law_read_b) fun cdv A outer s HH EE M0 xs M Q E hgd hr tk h => ?_
  obtain ⟨m, sg, rfl, q⟩ := h
  refine ⟨_, (ss_cons (s_set (i := 2) sc__law_read.nd rfl (.inl rfl) (d_dctIx (hu_of hr) (d_dct (ep_str (fun _ _ => d_int) (ep_str (fun _ _ => d_int) (ep_str (fun _ _ => d_int) (ep_str (fun _ _ => d_int) ep_nil)))) (by decide)) (d_var 0)))
      (ss_one (s_ret (d_tup (da_cons (d_dctIx (hu_of hr) (d_dct (ep_str (fun _ _ => d_int) (ep_str (fun _ _ => d_int) (ep_str (fun _ _ => d_int) (ep_str (fun _ _ => d_int) ep_nil)))) (by decide)) (d_var 0)) (da_cons (d_cmp (o_eq hr.units) (d_var 1) (d_var 2)) da_nil)))))), ?_⟩
  cases m with
  | c => exact ⟨_, _, rfl, rfl, _, _, rfl, rfl, (show 2 ≤ sizeLine by decide), q⟩
  | s => exact ⟨_, _, rfl, rfl, _, _, rfl, rfl, (show 2 ≤ sizeLine by decide), q⟩
  | f => exact ⟨_, _, rfl, rfl, _, _, rfl, rfl, (show 2 ≤ sizeLine by decide), q⟩
  | t => exact ⟨_, _, rfl, rfl, _, _, rfl, rfl, (show 2 ≤ sizeLine by decide), q⟩

/-! ### _law_bit -/
abbrev s__law_bit : Stmt := topS 30
abbrev N__law_bit : List Str := ["parts", "signal", "left", "index", "step", "ends"]
theorem sc__law_bit : FnScope N__law_bit ["parts", "signal"] (defScope s__law_bit) := ⟨rfl, rfl, rfl, by decide +kernel, rfl, by decide +kernel, by decide +kernel⟩
theorem c__law_bit {f : Addr} {fd : FuncData} (F : Fun K "_law_bit" "_law_bit" s__law_bit f fd) (hmg : mg "_law_bit" = some (.ref f))
    (m_isinstance : mg "isinstance" = none)
    (m_int : mg "int" = none)
    (C__law_read : CalleeG P w K mg base "_law_read" 1 ["mask", "signal"] sp__law_read_b) : CalleeG P w K mg base "_law_bit" 2 ["parts", "signal"] sp__law_bit_b := by
  refine calleeG_mk (k := 1) F hmg sc__law_bit (fun _ _ _ _ _ _ us hl => match us, hl with | [_, _], _ => rfl) (len__law_bit_b) fun cdv A outer s HH EE M0 xs M Q E hgd hr tk h => ?_
  obtain ⟨ps, sg0, rfl, hl, q⟩ := h.ex
  refine ⟨_, (ss_cons (s_set (i := 2) sc__law_bit.nd rfl (.inl rfl) (d_lstM da_nil))
      (ss_cons (s_for (passes_of rfl) rfl (i_seq (d_var 0)) (g_many (is := [3, 4]) rfl (pgs_cons (pg_name (i := 3) sc__law_bit.nd rfl (.inl rfl)) (pgs_cons (pg_name (i := 4) sc__law_bit.nd rfl (.inl rfl)) pgs_nil))) (ss_one (s_if (dt_val (d_isi (T := "int") (by decide) (by rfl) m_isinstance (by rfl) m_int (by decide +kernel) (d_var 4))) (ss_cons (s_expr (d_append (d_var 2) (d_lst (da_cons (d_var 3) (da_cons (d_op o_fdiv (d_op o_add (d_var 4) (d_var 1)) d_int) da_nil)))))
      (ss_one (s_set (i := 1) sc__law_bit.nd rfl (.inl rfl) (d_op o_mod (d_op o_add (d_var 4) (d_var 1)) d_int)))) (ss_cons (s_asg (d_callG C__law_read (hr.mono (by decide)) hgd (by rfl) tk (da_cons (d_var 4) (da_cons (d_var 1) da_nil))) (g_many (is := [1, 5]) rfl (pgs_cons (pg_name (i := 1) sc__law_bit.nd rfl (.inl rfl)) (pgs_cons (pg_name (i := 5) sc__law_bit.nd rfl (.inl rfl)) pgs_nil))))
      (ss_one (s_if (dt_not (dt_val (d_var 5))) (ss_one (s_expr (d_append (d_var 2) (d_lst (da_cons (d_var 3) (da_cons (d_var 4) da_nil)))))) ss_nil))))))
      (ss_frz 2 (ss_one (s_ret (d_tup (da_cons (d_var 1) (da_cons (d_var 2) da_nil)))))))), ?_⟩
  refine ⟨by decide, fun p hp => ?_⟩
  refine dLoop_inv (fun i ds M' => ∃ t3 t4 t5 sg L, ds = [some (.lst (prtD ps)), some (.int sg), some (.ref p), t3, t4, t5] ∧ M' = mup M p (.lst (prtD L)) ∧ L.length ≤ i ∧ uB sg0 ps = ((uB sg (ps.drop i)).1, L ++ (uB sg (ps.drop i)).2)) ⟨none, none, none, sg0, [], rfl, rfl, Nat.le_refl _, rfl⟩ (fun i d ds M' N hd ⟨t3, t4, t5, sg, L, e1, e2, hL, hu⟩ hN => ?_) (fun ds M' ⟨t3, t4, t5, sg, L, e1, e2, hL, hu⟩ => ?_)
  · subst e1 e2
    unfold prtD at hd
    rw [List.getElem?_map] at hd
    cases hc : ps[i]? with
    | none => rw [hc] at hd; cases hd
    | some pr =>
      rw [hc] at hd
      cases hd
      have hi := (List.getElem?_eq_some_iff.mp hc).1
      rw [List.drop_eq_getElem_cons hi, (List.getElem?_eq_some_iff.mp hc).2] at hu
      obtain ⟨ix, st⟩ := pr
      have hz : (prtD L).length < sizeLine := by
        rw [prtD_len]
        exact Nat.lt_of_le_of_lt (show _ ≤ 100000 by omega) (by decide)
      cases st with
      | add k =>
        rw [uB] at hu
        refine ⟨rfl, _, mup_same, wide_div (b := 2) (by decide) (by decide) (by decide) (by decide), (show 2 ≤ sizeLine by decide), _, mup_same, hz, (show (0 : Int) < 2 by decide), ?_⟩
        rw [mup_mup]
        refine hN _ _ ⟨some (.int (ix : Nat)), some (.int k), t5, _, L ++ [(ix, .add ((k + sg) / 2))], rfl, by rw [prtD_app]; rfl, by simp; omega, ?_⟩
        rw [hu, List.append_assoc]; rfl
      | mk m =>
        rw [uB] at hu
        refine ⟨rfl, m, sg, rfl, rfl, ?_⟩
        refine ifN (fun ht => ?_) fun ht => ?_
        · rw [if_neg ht] at hu
          refine ⟨_, mup_same, (show 2 ≤ sizeLine by decide), _, mup_same, hz, ?_⟩
          rw [mup_mup]
          refine hN _ _ ⟨some (.int (ix : Nat)), some (.str m.st), _, m.wr, L ++ [(ix, .mk m)], rfl, by rw [prtD_app]; rfl, by simp; omega, ?_⟩
          rw [hu, List.append_assoc]; rfl
        · rw [if_pos ht] at hu
          exact hN _ _ ⟨some (.int (ix : Nat)), some (.str m.st), _, m.wr, L, rfl, rfl, by omega, hu⟩
  · subst e1 e2
    rw [prtD_len, List.drop_length, uB, List.append_nil] at hu
    rw [hu] at q
    refine ⟨_, mup_same, (show 2 ≤ sizeLine by decide), ?_⟩
    rw [mrm_mup hp]
    exact q

/-! ### _law_parts -/
abbrev s__law_parts : Stmt := topS 31
abbrev N__law_parts : List Str := ["some", "index", "step"]
theorem sc__law_parts : FnScope N__law_parts ["some"] (defScope s__law_parts) := ⟨rfl, rfl, rfl, by decide +kernel, rfl, by decide +kernel, by decide +kernel⟩
theorem c__law_parts {f : Addr} {fd : FuncData} (F : Fun K "_law_parts" "_law_parts" s__law_parts f fd) (hmg : mg "_law_parts" = some (.ref f))
    (m_enumerate : mg "enumerate" = none) : CalleeG P w K mg base "_law_parts" 1 ["some"] sp__law_parts := by
  refine calleeG_mk (k := 0) F hmg sc__law_parts (fun _ _ _ _ _ _ us hl => match us, hl with | [_], _ => rfl) (len__law_parts) fun cdv A outer s HH EE M0 xs M Q E hgd hr tk h => ?_
  obtain ⟨d, l, rfl, hd, hl, q⟩ := h.ex
  refine ⟨_, (ss_one (s_ret (d_lc (own := [("index", 1), ("step", 2)]) (g := .many [1, 2]) rfl sc__law_parts.nd (i_enum (by rfl) m_enumerate (d_var 0)) (blkOk_by (N := N__law_parts) (sc := defScope s__law_parts) (by decide +kernel)) (fun _ _ _ _ _ => (g_many (is := [1, 2]) rfl (pgs_cons (pg_name (i := 1) sc__law_parts.nd rfl (.inl rfl)) (pgs_cons (pg_name (i := 2) sc__law_parts.nd rfl (.inl rfl)) pgs_nil)))) (fun _ _ _ _ _ _ _ => dts_nil) (fun _ _ _ _ _ _ _ => (d_lst (da_cons (d_var 1) (da_cons (d_var 2) da_nil))))))), ?_⟩
  rcases hd with rfl | rfl
  all_goals
    refine dComp_inv (fun i acc M' => acc = (partsD l).take i ∧ M' = M) ⟨rfl, rfl⟩ (fun i x acc M2 R hx ⟨e1, e2⟩ hR => ?_) (fun acc M2 ⟨e1, e2⟩ => ?_)
    · subst e1 e2
      obtain ⟨e, he, rfl⟩ := enumD_at hx
      have hi := (List.getElem?_eq_some_iff.mp he).1
      refine ⟨rfl, (show 2 ≤ sizeLine by decide), ?_, hR _ _ ⟨(partsD_take he).symm, rfl⟩⟩
      rw [List.length_take, partsD_len]
      exact Nat.lt_of_le_of_lt (show _ ≤ 100000 by omega) (by decide)
    · subst e1 e2
      rw [enumD_len, ← partsD_len l, List.take_length]
      exact q

/-! ### _law_joined -/
abbrev s__law_joined : Stmt := topS 32
abbrev N__law_joined : List Str := ["parts", "found", "total", "index", "step"]
theorem sc__law_joined : FnScope N__law_joined ["parts"] (defScope s__law_joined) := ⟨rfl, rfl, rfl, by decide +kernel, rfl, by decide +kernel, by decide +kernel⟩
theorem c__law_joined {f : Addr} {fd : FuncData} (F : Fun K "_law_joined" "_law_joined" s__law_joined f fd) (hmg : mg "_law_joined" = some (.ref f))
    (m_tuple : mg "tuple" = none)
    (m_int : mg "int" = none)
    (m_isinstance : mg "isinstance" = none) : CalleeG P w K mg base "_law_joined" 1 ["parts"] sp__law_joined_p := by
  refine calleeG_mk (k := 0) F hmg sc__law_joined (fun _ _ _ _ _ _ us hl => match us, hl with | [_], _ => rfl) (len__law_joined_p) fun cdv A outer s HH EE M0 xs M Q E hgd hr tk h => ?_
  obtain ⟨ps, rfl, hl, q⟩ := h.ex
  refine ⟨_, (ss_cons (s_par (i := 1) (j := 2) rfl sc__law_joined.nd rfl rfl (by decide) rfl rfl (da_cons (d_lst da_nil) (da_cons d_int da_nil)) (by rfl))
      (ss_cons (s_for (passes_of rfl) rfl (i_seq (d_var 0)) (g_many (is := [3, 4]) rfl (pgs_cons (pg_name (i := 3) sc__law_joined.nd rfl (.inl rfl)) (pgs_cons (pg_name (i := 4) sc__law_joined.nd rfl (.inl rfl)) pgs_nil))) (ss_one (s_if (dt_val (d_isi (T := "int") (by decide) (by rfl) m_isinstance (by rfl) m_int (by decide +kernel) (d_var 4))) (ss_one (s_set (i := 2) sc__law_joined.nd rfl (.inl rfl) (d_op o_add (d_var 2) (d_var 4)))) (ss_cons (s_set (i := 1) sc__law_joined.nd rfl (.inl rfl) (d_op o_add (d_op o_add (d_var 1) (d_op o_mulA (d_lst (da_cons (d_var 2) da_nil)) (d_callTy c_int (by rfl) m_int (by decide +kernel) (da_cons (d_cmp (o_ne hr.units) (d_var 2) d_int) da_nil)))) (d_lst (da_cons (d_var 4) da_nil))))
      (ss_one (s_set (i := 2) sc__law_joined.nd rfl (.inl rfl) d_int))))))
      (ss_one (s_ret (d_callTy c_tuple (by rfl) m_tuple (by decide +kernel) (da_cons (d_op o_add (d_var 1) (d_op o_mulA (d_lst (da_cons (d_var 2) da_nil)) (d_callTy c_int (by rfl) m_int (by decide +kernel) (da_cons (d_cmp (o_ne hr.units) (d_var 2) d_int) da_nil)))) da_nil)))))), ?_⟩
  refine ⟨by decide, ?_⟩
  refine dLoop_inv (fun i ds M' => ∃ t2 t3 f sh, ds = [some (.lst (prtD ps)), some (.lst (f.map Stp.d)), some (.int sh), t2, t3] ∧ M' = M ∧ f.length ≤ 2 * i ∧ mgA f sh ((ps.map (·.2)).drop i) = mgd (ps.map (·.2))) ⟨none, none, [], 0, rfl, rfl, Nat.le_refl _, rfl⟩ (fun i d ds M' N hd ⟨t2, t3, f, sh, e1, e2, hf, hm⟩ hN => ?_) (fun ds M' ⟨t2, t3, f, sh, e1, e2, hf, hm⟩ => ?_)
  · subst e1 e2
    unfold prtD at hd
    rw [List.getElem?_map] at hd
    cases hps : ps[i]? with
    | none => rw [hps] at hd; cases hd
    | some qq =>
      obtain ⟨ix, s⟩ := qq
      rw [hps] at hd
      cases hd
      have hs : (ps.map (·.2))[i]? = some s := by rw [List.getElem?_map, hps]; rfl
      have hi := (List.getElem?_eq_some_iff.mp hs).1
      have hi2 := (List.getElem?_eq_some_iff.mp hps).1
      rw [List.drop_eq_getElem_cons hi, (List.getElem?_eq_some_iff.mp hs).2] at hm
      have hsz : (f.map Stp.d).length + 2 ≤ sizeLine := by rw [List.length_map]; exact Nat.le_trans (show f.length + 2 ≤ 2000002 by omega) (by decide)
      cases s with
      | mk m =>
        rw [mgA] at hm
        rcases int_three sh with rfl | ⟨n, rfl⟩ | ⟨n, rfl⟩
        · rw [if_neg (by decide)] at hm
          refine ⟨rfl, (show 1 ≤ sizeLine by decide), by decide, by decide, (show 1 * (0 : Int).toNat ≤ sizeLine by decide), Nat.le_trans (Nat.le_add_right _ 2) hsz, (show 1 ≤ sizeLine by decide), ?_, ?_⟩
          · change (f.map Stp.d ++ []).length + 1 ≤ sizeLine
            rw [List.append_nil]; exact Nat.le_of_succ_le hsz
          · exact hN _ _ ⟨_, _, f ++ [.mk m], 0, by
              rw [List.map_append]
              exact congrArg (fun z => [some (D.lst (prtD ps)), some (D.lst z), some (D.int 0), some (D.int ix), some (D.str m.st)]) (lst_nil (f.map Stp.d) _ [D.str m.st] rfl), rfl, by rw [List.length_append]; simp; omega, hm⟩
        all_goals
          rw [if_pos (fun z => nomatch z)] at hm
          refine ⟨rfl, (show 1 ≤ sizeLine by decide), (show (0 : Int) ≤ 1 by decide), (show (1 : Int) < 2 ^ 63 by decide), (show 1 * (1 : Int).toNat ≤ sizeLine by decide), Nat.le_of_succ_le hsz, (show 1 ≤ sizeLine by decide), ?_, ?_⟩
          · rw [List.length_append]; exact hsz
          · rw [List.append_assoc]
            exact hN _ _ ⟨_, _, f ++ [.add _, .mk m], 0, by rw [List.map_append]; rfl, rfl, by rw [List.length_append]; simp; omega, hm⟩
      | add k =>
        rw [mgA] at hm
        exact ⟨rfl, hN _ _ ⟨_, _, f, sh + k, rfl, rfl, by omega, hm⟩⟩
  · subst e1 e2
    rw [prtD_len] at hf hm
    have hml : (ps.map (·.2)).length = ps.length := List.length_map _
    rw [← hml] at hm
    rw [List.drop_length, mgA] at hm
    have hsz : (f.map Stp.d).length + 2 ≤ sizeLine := by rw [List.length_map]; exact Nat.le_trans (show f.length + 2 ≤ 2000002 by omega) (by decide)
    rcases int_three sh with rfl | ⟨n, rfl⟩ | ⟨n, rfl⟩
    · rw [if_neg (by decide)] at hm
      refine ⟨(show 1 ≤ sizeLine by decide), by decide, by decide, (show 1 * (0 : Int).toNat ≤ sizeLine by decide), Nat.le_trans (Nat.le_add_right _ 2) hsz, ?_⟩
      rw [← hm] at q
      change Q (.tup (f.map Stp.d ++ [])) _
      rw [List.append_nil]
      exact q
    all_goals
      rw [if_pos (fun z => nomatch z)] at hm
      refine ⟨(show 1 ≤ sizeLine by decide), (show (0 : Int) ≤ 1 by decide), (show (1 : Int) < 2 ^ 63 by decide), (show 1 * (1 : Int).toNat ≤ sizeLine by decide), Nat.le_of_succ_le hsz, ?_⟩
      rw [← hm, stD, List.map_append] at q
      exact q

/-! ### _law_tails -/
abbrev s__law_tails : Stmt := topS 33
abbrev N__law_tails : List Str := ["some", "index", "signal", "parts", "found", "bits", "turn", "last"]
theorem sc__law_tails : FnScope N__law_tails ["some", "index"] (defScope s__law_tails) := ⟨rfl, rfl, rfl, by decide +kernel, rfl, by decide +kernel, by decide +kernel⟩
theorem c__law_tails {f : Addr} {fd : FuncData} (F : Fun K "_law_tails" "_law_tails" s__law_tails f fd) (hmg : mg "_law_tails" = some (.ref f))
    (m_range : mg "range" = none)
    (C__law_joined : CalleeG P w K mg base "_law_joined" 1 ["parts"] sp__law_joined_p)
    (C__law_bit : CalleeG P w K mg base "_law_bit" 2 ["parts", "signal"] sp__law_bit_b)
    (C__law_parts : CalleeG P w K mg base "_law_parts" 1 ["some"] sp__law_parts) : CalleeG P w K mg base "_law_tails" 3 ["some", "index"] sp__law_tails_q := by
  refine calleeG_mk (k := 2) F hmg sc__law_tails (fun _ _ _ _ _ _ us hl => match us, hl with | [_, _], _ => rfl) (len__law_tails_q) fun cdv A outer s HH EE M0 xs M Q E hgd hr tk h => ?_
  obtain ⟨l, i, m, rfl, hl, hm, q⟩ := h.ex
  refine ⟨_, (ss_cons (s_set (i := 2) sc__law_tails.nd rfl (.inl rfl) (d_dctIx (hu_of hr) (d_dct (ep_str (fun _ _ => d_int) (ep_str (fun _ _ => d_int) (ep_str (fun _ _ => d_int) (ep_str (fun _ _ => d_int) ep_nil)))) (by decide)) (d_ix (d_var 0) (d_var 1))))
      (ss_cons (s_par3 (i := 3) (j := 4) (l := 5) rfl sc__law_tails.nd rfl rfl rfl (by decide) (by decide) (by decide) rfl rfl rfl (da_cons (d_callG C__law_parts (hr.mono (by decide)) hgd (by rfl) tk (da_cons (d_sl (d_var 0) (do_some (d_op o_add (d_var 1) d_int)) do_none) da_nil)) (da_cons (d_lstM da_nil) (da_cons d_str da_nil))) (by rfl))
      (ss_cons (s_for (passes_of rfl) rfl (i_range1 (by rfl) m_range d_int) (g_one (i := 6) sc__law_tails.nd rfl (.inl rfl)) (ss_cons (s_expr (d_append (d_var 4) (d_callG C__law_joined (hr.mono (by decide)) hgd (by rfl) tk (da_cons (d_var 3) da_nil))))
      (ss_cons (s_asg (d_callG C__law_bit (hr.mono (by decide)) hgd (by rfl) tk (da_cons (d_var 3) (da_cons (d_var 2) da_nil))) (g_many (is := [7, 3]) rfl (pgs_cons (pg_name (i := 7) sc__law_tails.nd rfl (.inl rfl)) (pgs_cons (pg_name (i := 3) sc__law_tails.nd rfl (.inl rfl)) pgs_nil))))
      (ss_cons (s_set (i := 5) sc__law_tails.nd rfl (.inl rfl) (d_op o_add (d_var 5) (d_ix d_str (d_var 7))))
      (ss_one (s_if (dt_cmp (o_eq hr.units) (d_callG C__law_joined (hr.mono (by decide)) hgd (by rfl) tk (da_cons (d_var 3) da_nil)) (d_ix (d_var 4) (d_neg d_int))) (ss_frz 4 (ss_one (s_ret (d_tup (da_cons (d_var 4) (da_cons (d_var 5) da_nil)))))) ss_nil))))))
      (ss_frz 4 (ss_one (s_ret (d_tup (da_cons (d_var 4) (da_cons (d_var 5) da_nil))))))))), ?_⟩
  have c2 : cutD (l.map Stp.d) (some ((i : Int) + 1)) none = (l.drop (i + 1)).map Stp.d := by
    have := cutD_from (l.map Stp.d) (i + 1)
    rw [← List.map_drop] at this
    exact this
  have big : 100000 ≤ sizeLine := by decide
  have hw : m.wr = 0 ∨ m.wr = 1 := by cases m <;> simp [Mk.wr]
  refine ⟨.str m.st, at_j i rfl (by rw [List.getElem?_map, hm]; rfl), ?_⟩
  have rd : ∃ k, keyD (.str m.st) = some k ∧ findD k [.inr "c", .inr "s", .inr "f", .inr "t"] [.int 0, .int 1, .int 1, .int 0] = some (.int m.wr) := by cases m <;> exact ⟨_, rfl, rfl⟩
  obtain ⟨kk, k1, k2⟩ := rd
  refine ⟨kk, _, k1, k2, ?_⟩
  refine sp__law_parts_t (l := cutD (l.map Stp.d) (some ((i : Int) + 1)) none) (by rw [c2, List.length_map, List.length_drop]; omega) ?_
  rw [c2, prtD_start]
  refine ⟨by decide, fun p hp => ?_⟩
  refine ⟨by decide, by decide, ?_⟩
  refine dLoop_inv (fun j ds M' => ∃ (ps : List Prt), ∃ t6 t7, ds = [some (stD l), some (.int i), some (.int m.wr), some (.lst (prtD ps)), some (.ref p), some (.str (wordS (behW l i m j))), t6, t7] ∧ M' = mup M p (.lst (tailsD l i m j)) ∧ ps.length ≤ 1000 ∧ nf (ps.map (·.2)) = snf (behS l i m j) ∧ j ≤ 400 ∧ ∀ t, t < j → stepsOf (behS l i m (t + 1)) ≠ stepsOf (behS l i m t))
    ⟨_, none, none, rfl, rfl, by rw [List.length_mapIdx, List.length_drop]; omega, by rw [mapIdx_snd]; exact (snf_start _).symm, by omega, fun t h => by omega⟩ (fun j d ds M' N hd ⟨ps, t6, t7, e1, e2, hps, hn, hj, hne⟩ hN => ?_) (fun ds M' ⟨ps, t6, t7, e1, e2, hps, hn, hj, hne⟩ => ?_)
  · subst e1 e2
    obtain ⟨hj4, rfl⟩ := rangeD_get hd
    have hj4 : j < 400 := hj4
    have em : ∀ (qs : List Prt) (t : Nat), nf (qs.map (·.2)) = snf (behS l i m t) → mgd (qs.map (·.2)) = stepsOf (behS l i m t) := fun qs t h => mgd_nf (h.trans (nf_staL _).symm)
    refine ⟨_, mup_same, sp__law_joined_p_ok (by omega) ?_⟩
    refine ⟨_, mup_same, by rw [tailsD_len]; exact Nat.lt_of_lt_of_le (show j < 100000 by omega) big, ?_⟩
    rw [mup_mup, em ps j hn, ← tailsD_succ]
    obtain ⟨u1, u2⟩ := uB_nf ps m.wr hw
    obtain ⟨b1, b2⟩ := beh_nf l i m j
    rw [hn, ← b1] at u1
    rw [hn, ← b2] at u2
    have hb1 : (uB m.wr ps).1 = 0 ∨ (uB m.wr ps).1 = 1 := by rw [u1]; unfold behB; omega
    refine ⟨ps, m.wr, rfl, by omega, ?_⟩
    have hul := uB_len ps m.wr
    refine ⟨rfl, (show 2 ≤ sizeLine by decide), _, sgn_at hb1, ?_, ?_⟩
    · rw [wordS_len]
      show (behW l i m j).length + 1 ≤ sizeLine
      rw [behW, nBits_len]; exact Nat.le_trans (show j + 1 ≤ 100000 by omega) big
    have ew : wordS (behW l i m j) ++ ⟨#[sgn (uB m.wr ps).1]⟩ = wordS (behW l i m (j + 1)) := by
      rw [wordS_snoc, u1]
      unfold behW behB
      rw [nBits_snoc]
    refine sp__law_joined_p_ok (ps := (uB m.wr ps).2) (by omega) ?_
    refine ⟨_, _, mup_same, by rw [tailsD_succ]; exact at_last _ _, ?_⟩
    rw [em (uB m.wr ps).2 (j + 1) u2]
    refine ⟨_, _, pdT_st _ _, pdT_st _ _, shaped_st _, shaped_st _, ?_⟩
    have hev := eqv_steps (stepsOf (behS l i m (j + 1))) (stepsOf (behS l i m j))
    refine ifB (fun h => ?_) (fun h => ?_)
    · have hs := of_decide_eq_true (hev.symm.trans h)
      refine ⟨_, mup_same, ?_⟩
      rw [mrm_mup hp]
      refine ⟨(show 2 ≤ sizeLine by decide), ?_⟩
      have q := q (j + 1) ⟨by omega, by omega, fun t ht => hne t (by omega), .inl hs⟩
      rw [← ew] at q
      exact q
    · have hs := of_decide_eq_false (hev.symm.trans h)
      refine hN _ _ ⟨(uB m.wr ps).2, some (.int (0 + (j : Int))), some (.int (uB m.wr ps).1), ?_, rfl, by omega, u2, by omega, fun t ht => ?_⟩
      · rw [← ew]; rfl
      · by_cases z : t = j
        · rw [z]; exact hs
        · exact hne t (by omega)
  · subst e1 e2
    rw [rangeD_len] at hne hj ⊢
    refine ⟨_, mup_same, ?_⟩
    rw [mrm_mup hp]
    refine ⟨(show 2 ≤ sizeLine by decide), ?_⟩
    exact q 400 ⟨by omega, by omega, fun t ht => hne t (by show t < 400; omega), .inr ⟨rfl, hne 399 (by decide)⟩⟩

/-! ### _law_places -/
abbrev s__law_places : Stmt := topS 34
abbrev N__law_places : List Str := ["some", "index", "step"]
theorem sc__law_places : FnScope N__law_places ["some"] (defScope s__law_places) := ⟨rfl, rfl, rfl, by decide +kernel, rfl, by decide +kernel, by decide +kernel⟩
theorem c__law_places {f : Addr} {fd : FuncData} (F : Fun K "_law_places" "_law_places" s__law_places f fd) (hmg : mg "_law_places" = some (.ref f))
    (m_enumerate : mg "enumerate" = none)
    (m_isinstance : mg "isinstance" = none)
    (m_int : mg "int" = none) : CalleeG P w K mg base "_law_places" 1 ["some"] sp__law_places_q := by
  refine calleeG_mk (k := 0) F hmg sc__law_places (fun _ _ _ _ _ _ us hl => match us, hl with | [_], _ => rfl) (len__law_places_q) fun cdv A outer s HH EE M0 xs M Q E hgd hr tk h => ?_
  obtain ⟨l, rfl, hl, q⟩ := h.ex
  refine ⟨_, (ss_one (s_ret (d_lc (own := [("index", 1), ("step", 2)]) (g := .many [1, 2]) rfl sc__law_places.nd (i_enum (by rfl) m_enumerate (d_var 0)) (blkOk_by (N := N__law_places) (sc := defScope s__law_places) (by decide +kernel)) (fun _ _ _ _ _ => (g_many (is := [1, 2]) rfl (pgs_cons (pg_name (i := 1) sc__law_places.nd rfl (.inl rfl)) (pgs_cons (pg_name (i := 2) sc__law_places.nd rfl (.inl rfl)) pgs_nil)))) (fun _ _ _ _ _ _ _ => (dts_one (dt_not (dt_val (d_isi (T := "int") (by decide) (by rfl) m_isinstance (by rfl) m_int (by decide +kernel) (d_var 2)))))) (fun _ _ _ _ _ _ _ => (d_var 1))))), ?_⟩
  refine dComp_inv (fun i acc M' => acc = (mIdx 0 (l.take i)).map idN ∧ M' = M ∧ acc.length ≤ i) ⟨rfl, rfl, Nat.le_refl _⟩ (fun i x acc M2 R hx ⟨f1, f2, f3⟩ hR => ?_) fun acc M2 ⟨f1, f2, f3⟩ => ?_
  · subst f1 f2
    obtain ⟨y, hy, rfl⟩ := enumD_at hx
    rw [List.getElem?_map] at hy
    cases hc : l[i]? with
    | none => rw [hc] at hy; cases hy
    | some st =>
      rw [hc] at hy
      cases hy
      have hi := (List.getElem?_eq_some_iff.mp hc).1
      have ht1 : (l.take i).length = i := by rw [List.length_take]; omega
      have em := mIdx_app (l.take i) [st] 0
      rw [ht1, Nat.zero_add] at em
      have et : l.take (i + 1) = l.take i ++ [st] := by rw [List.take_add_one, hc]; rfl
      cases st with
      | mk mm =>
        refine ⟨rfl, ?_⟩
        refine ⟨?_, hR _ _ ⟨?_, rfl, ?_⟩⟩
        · exact Nat.lt_of_le_of_lt (show _ ≤ 100000 by omega) (by decide)
        · rw [et, em, List.map_append]; rfl
        · rw [List.length_append, List.length_singleton]; omega
      | add kk =>
        refine ⟨rfl, ?_⟩
        refine hR _ _ ⟨?_, rfl, by omega⟩
        rw [et, em]
        show _ = List.map _ (mIdx 0 (l.take i) ++ [])
        rw [List.append_nil]
  · subst f1 f2
    rw [enumD_len, List.length_map, List.take_length]
    exact q

/-! ### law -/
theorem len_law (xs : List D) (M : Mp) (Q : DK) (E : XD) : lawSp xs M Q E → xs.length = 1 := by
  rintro ⟨_, rfl, _⟩; rfl
abbrev s_law : Stmt := topS 35
abbrev N_law : List Str := ["script", "k", "barrel", "turn", "some", "few", "index", "due", "bits", "last", "spot", "told"]
theorem sc_law : FnScope N_law ["script"] (defScope s_law) := ⟨rfl, rfl, rfl, by decide +kernel, rfl, by decide +kernel, by decide +kernel⟩
set_option maxHeartbeats 2000000 in
theorem c_law {f : Addr} {fd : FuncData} (F : Fun K "law" "law" s_law f fd)
    (m_range : mg "range" = none)
    (m_max : mg "max" = none)
    (m_min : mg "min" = none)
    (m_len : mg "len" = none)
    (m_repr : mg "repr" = none)
    (C_tail_after : Callee P w K mg base "tail_after" 12 ["steps", "index", "place"] (sp_tail_after E_InvalidPlace))
    (C__law_draw : CalleeG P w K mg base "_law_draw" 1 ["barrel", "many"] sp__law_draw)
    (C_settled_at : Callee P w K mg base "settled_at" 12 ["steps", "index"] sp_settled_at)
    (C__law_tails : CalleeG P w K mg base "_law_tails" 3 ["some", "index"] sp__law_tails_q)
    (C__law_places : CalleeG P w K mg base "_law_places" 1 ["some"] sp__law_places_q)
    (C__law_some : CalleeG P w K mg base "_law_some" 2 ["barrel", "most"] sp__law_some)
    (C__law_barrel : CalleeG P w K mg base "_law_barrel" 1 ["script", "k"] sp__law_barrel) : FnG P w K mg base 13 f fd ["script"] (lSp K lawSp) := by
  refine fnG_mk (k := 12) F sc_law len_law fun cdv A outer s HH EE M0 xs M Q E hgd hr tk h => ?_
  obtain ⟨ns, rfl, hl, q⟩ := h
  refine ⟨_, (ss_cons (s_for (passes_of rfl) rfl (i_range1 (by rfl) m_range (d_callB (c_max2 rfl) (by rfl) m_max (by decide +kernel) (da_cons d_int (da_cons (d_callB (c_min2 rfl) (by rfl) m_min (by decide +kernel) (da_cons d_int (da_cons (d_op o_add (d_callB c_len (by rfl) m_len (by decide +kernel) (da_cons (d_var 0) da_nil)) d_int) da_nil))) da_nil)))) (g_one (i := 1) sc_law.nd rfl (.inl rfl)) (ss_cons (s_set (i := 2) sc_law.nd rfl (.inl rfl) (d_callG C__law_barrel (hr.mono (by decide)) hgd (by rfl) tk (da_cons (d_var 0) (da_cons (d_var 1) da_nil))))
      (ss_one (s_for (passes_of rfl) rfl (i_range1 (by rfl) m_range d_int) (g_one (i := 3) sc_law.nd rfl (.inl rfl)) (ss_cons (s_set (i := 4) sc_law.nd rfl (.inl rfl) (d_callG C__law_some (hr.mono (by decide)) hgd (by rfl) tk (da_cons (d_var 2) (da_cons (d_ix (d_lst (da_cons d_int (da_cons d_int da_nil))) (d_callG C__law_draw (hr.mono (by decide)) hgd (by rfl) tk (da_cons (d_var 2) (da_cons d_int da_nil)))) da_nil))))
      (ss_cons (s_set (i := 5) sc_law.nd rfl (.inl rfl) (d_callG C__law_places (hr.mono (by decide)) hgd (by rfl) tk (da_cons (d_var 4) da_nil)))
      (ss_one (s_if (dt_cmp (o_ne hr.units) (d_var 5) (d_lst da_nil)) (ss_cons (s_set (i := 6) sc_law.nd rfl (.inl rfl) (d_ix (d_var 5) (d_callG C__law_draw (hr.mono (by decide)) hgd (by rfl) tk (da_cons (d_var 2) (da_cons (d_callB c_len (by rfl) m_len (by decide +kernel) (da_cons (d_var 5) da_nil)) da_nil)))))
      (ss_cons (s_asg (d_callG C__law_tails (hr.mono (by decide)) hgd (by rfl) tk (da_cons (d_var 4) (da_cons (d_var 6) da_nil))) (g_many (is := [7, 8]) rfl (pgs_cons (pg_name (i := 7) sc_law.nd rfl (.inl rfl)) (pgs_cons (pg_name (i := 8) sc_law.nd rfl (.inl rfl)) pgs_nil))))
      (ss_cons (s_set (i := 9) sc_law.nd rfl (.inl rfl) (d_op o_sub (d_callB c_len (by rfl) m_len (by decide +kernel) (da_cons (d_var 7) da_nil)) d_int))
      (ss_cons (s_if (dt_w (dw_or (dt_cmp (o_ne hr.units) (d_call C_settled_at (hr.mono (by decide)) (by rfl) tk (da_cons (d_var 4) (da_cons (d_var 6) da_nil))) (d_var 9)) (dw_or1 (dt_cmp o_gt (d_var 9) d_int)))) (ss_one (s_ret d_bl)) ss_nil)
      (ss_one (s_for (passes_of rfl) rfl (i_seq (d_lst (da_cons d_int (da_cons d_int (da_cons (d_callG C__law_draw (hr.mono (by decide)) hgd (by rfl) tk (da_cons (d_var 2) (da_cons (d_op o_add (d_var 9) d_int) da_nil))) (da_cons (d_callB (c_max2 rfl) (by rfl) m_max (by decide +kernel) (da_cons d_int (da_cons (d_op o_sub (d_var 9) d_int) da_nil))) (da_cons (d_var 9) (da_cons (d_op o_add (d_var 9) d_int) (da_cons (d_op o_pow d_int d_int) da_nil))))))))) (g_one (i := 10) sc_law.nd rfl (.inl rfl)) (ss_cons (s_set (i := 11) sc_law.nd rfl (.inl rfl) (d_call C_tail_after (hr.mono (by decide)) (by rfl) tk (da_cons (d_var 4) (da_cons (d_var 6) (da_cons (d_var 10) da_nil)))))
      (ss_one (s_if (dt_cmp (o_ne hr.units) (d_callB (c_repr hgd (hu80 hr)) (by rfl) m_repr (by decide +kernel) (da_cons (d_var 11) da_nil)) (d_callB (c_repr hgd (hu80 hr)) (by rfl) m_repr (by decide +kernel) (da_cons (d_ix (d_var 7) (d_callB (c_min2 rfl) (by rfl) m_min (by decide +kernel) (da_cons (d_var 10) (da_cons (d_var 9) da_nil)))) da_nil))) (ss_one (s_ret d_bl)) ss_nil))))))))) ss_nil))))))))
      (ss_one (s_ret (d_and (d_cmp (o_eq hr.units) (d_call C_tail_after (hr.mono (by decide)) (by rfl) tk (da_cons (d_tup (da_cons d_str (da_cons d_int (da_cons d_str (da_cons d_str da_nil))))) (da_cons d_int (da_cons (d_op o_pow d_int d_int) da_nil)))) (d_tup da_nil)) (d_one (d_cmp (o_eq hr.units) (d_call C_tail_after (hr.mono (by decide)) (by rfl) tk (da_cons (d_tup (da_cons d_str (da_cons (d_neg d_int) da_nil))) (da_cons d_int (da_cons d_int da_nil)))) (d_tup (da_cons (d_neg d_int) da_nil)))))))), ?_⟩
  refine ⟨Int.lt_of_le_of_lt (kmax_le ns.length).1 (by decide), Int.le_trans (by decide) (kmax_le ns.length).2, ?_⟩
  refine dLoop_inv (fun i ds M' => ∃ t1 t2 t3 t4 t5 t6 t7 t8 t9 t10 t11, ds = [some (.scr ns), t1, t2, t3, t4, t5, t6, t7, t8, t9, t10, t11]) ⟨none, none, none, none, none, none, none, none, none, none, none, rfl⟩ (fun i d ds M1 N hd ⟨t1, t2, t3, t4, t5, t6, t7, t8, t9, t10, t11, e1⟩ hN => ?_) (fun ds M1 ⟨t1, t2, t3, t4, t5, t6, t7, t8, t9, t10, t11, e1⟩ => ?_)
  · subst e1
    obtain ⟨hi, rfl⟩ := rangeD_get hd
    have hi5 : i < 5 := Nat.lt_of_lt_of_le hi (Int.toNat_le.mpr (kmax_le ns.length).1)
    refine ⟨ns, 0 + (i : Int), rfl, by omega, by omega, fun p l hp hbar => ?_⟩
    refine ⟨by decide, by decide, ?_⟩
    refine dLoop_inv (fun j ds M' => ∃ t3 t4 t5 t6 t7 t8 t9 t10 t11 l, ds = [some (.scr ns), some (.int (0 + (i : Int))), some (.ref p), t3, t4, t5, t6, t7, t8, t9, t10, t11] ∧ M' p = some (.lst l) ∧ Bar l (6000 * j)) ⟨t3, t4, t5, t6, t7, t8, t9, t10, t11, l, rfl, mup_same, hbar.mono (by decide)⟩ (fun j d ds M2 N2 hd ⟨t3, t4, t5, t6, t7, t8, t9, t10, t11, l, e1, hm, hb⟩ hN2 => ?_) (fun ds M2 ⟨t3, t4, t5, t6, t7, t8, t9, t10, t11, l, e1, hm, hb⟩ => ?_)
    · subst e1
      obtain ⟨hj, rfl⟩ := rangeD_get hd
      have hj9 : j < 4 := hj
      refine ⟨(show 2 ≤ sizeLine by decide), ?_⟩
      refine ⟨p, 2, _, l, rfl, by decide, by decide, hm, hb, by omega, fun r1 l1 r10 r11 hb1 => ?_⟩
      obtain ⟨dw, ew, most, rfl, w0, w1⟩ : ∃ d, atI [D.int 6, D.int 20] r1 = some d ∧ ∃ m : Int, d = .int m ∧ 0 ≤ m ∧ m ≤ 20 := at_mem r10 r11 fun x hx => by
        simp only [List.mem_cons, List.not_mem_nil, or_false] at hx
        rcases hx with rfl | rfl
        · exact ⟨_, rfl, by decide, by decide⟩
        · exact ⟨_, rfl, by decide, by decide⟩
      refine ⟨_, ew, ?_⟩
      refine ⟨p, most, _, l1, rfl, w0, by omega, mup_same, hb1, by omega, fun sts l2 hsl hst hb2 => ?_⟩
      rw [mup_mup]
      have hs20 : sts.length ≤ 20 := by omega
      refine sp__law_places_q_ok (by omega) ?_
      have hml := mIdx_len sts 0
      refine ⟨(show 0 ≤ sizeLine by decide), _, _, (show pd _ _ = _ by rw [pd, ids_pds]; rfl), rfl, ids_shaped _, by decide +kernel, ?_⟩
      refine ifNB (fun h => ?_) (fun h => ?_)
      · have hne : mIdx 0 sts ≠ [] := fun z => by
          have h := (ids_nil _).symm.trans h
          rw [z] at h; cases h
        have hlen : ((mIdx 0 sts).map idN).length = (mIdx 0 sts).length := List.length_map _
        have hpos : 0 < (mIdx 0 sts).length := List.length_pos_iff.mpr hne
        refine ⟨p, ((mIdx 0 sts).map idN).length, _, l2, rfl, by omega, by omega, mup_same, hb2, by omega, fun r3 l3 r30 r31 hb3 => ?_⟩
        rw [mup_mup]
        have pick : ∀ x ∈ (mIdx 0 sts).map idN, ∃ (a : Nat) (m : Mk), x = .int a ∧ sts[a]? = some (.mk m) := fun x hx => by
          obtain ⟨a, ha, rfl⟩ := List.mem_map.mp hx
          obtain ⟨_, m, h2⟩ := mIdx_get sts 0 a ha
          exact ⟨a, m, rfl, by rwa [Nat.sub_zero] at h2⟩
        obtain ⟨da, ea, a, m, rfl, hm1⟩ : ∃ d, atI ((mIdx 0 sts).map idN) r3 = some d ∧ ∃ (a : Nat) (m : Mk), d = .int a ∧ sts[a]? = some (.mk m) := at_mem r30 r31 pick
        refine ⟨_, ea, ?_⟩
        refine sp__law_tails_q_ok (by omega) hm1 fun n hn => ?_
        obtain ⟨he, hn2⟩ := hn.all hs20 hst
        have hn1 := he.pos
        have htl := tailsD_len sts a m n
        refine ⟨rfl, ?_⟩
        refine sp_settled_at_ok (by omega) hm1 he (by omega) ?_
        refine ifN (fun h => absurd (by rw [htl]) h) (fun _ => ?_)
        refine ifP (fun h => ?_) (fun _ => ?_)
        · have h : (150 : Int) < ((tailsD sts a m n).length : Nat) - 1 := h
          rw [htl] at h; omega
        have hN0 : ((tailsD sts a m n).length : Int) = n := by rw [htl]
        refine ⟨p, ((tailsD sts a m n).length : Int) - 1 + 3, _, l3, rfl, by omega, by omega, mup_same, hb3, by omega, fun r5 l5 r50 r51 hb5 => ?_⟩
        rw [mup_mup]
        refine ⟨⟨by decide, by decide⟩, (show 7 ≤ sizeLine by decide), ?_⟩
        have hb6 := hb5.mono (m := 6000 * ((j + 1 : Nat) : Int)) (by omega)
        clear hb5
        refine dLoop_inv (fun jj ds M' => M' = mup M2 p (.lst l5) ∧ ∃ t10 t11, ds = [some (.scr ns), some (.int (0 + (i : Int))), some (.ref p), some (.int (0 + (j : Int))), some (stD sts), some (.lst ((mIdx 0 sts).map idN)), some (.int a), some (.lst (tailsD sts a m n)), some (.str (wordS (behW sts a m n))), some (.int (((tailsD sts a m n).length : Nat) - 1)), t10, t11]) ⟨rfl, t10, t11, rfl⟩ (fun jj d ds M3 N3 hd ⟨f1, t10, t11, f2⟩ hN3 => ?_) (fun ds M3 ⟨f1, t10, t11, f2⟩ => ?_)
        · subst f1 f2
          obtain ⟨q, rfl⟩ : ∃ q : Nat, d = .int (q : Nat) := by
            have hmem := List.mem_of_getElem? hd
            have key : ∃ x : Int, d = .int x ∧ 0 ≤ x := by
              simp only [List.mem_cons, List.not_mem_nil, or_false] at hmem
              rcases hmem with rfl | rfl | rfl | rfl | rfl | rfl | rfl
              · exact ⟨_, rfl, by decide⟩
              · exact ⟨_, rfl, by decide⟩
              · exact ⟨_, rfl, r50⟩
              · exact ⟨_, rfl, by split <;> omega⟩
              · exact ⟨_, rfl, by omega⟩
              · exact ⟨_, rfl, by omega⟩
              · exact ⟨_, rfl, by decide⟩
            obtain ⟨x, rfl, h0⟩ := key
            exact ⟨x.toNat, by rw [Int.toNat_of_nonneg h0]⟩
          refine sp_tail_after_ok (by omega) hm1 he (by omega) ?_
          have hle : (if q ≤ n - 1 then q else n - 1) ≤ 200 := by split <;> omega
          have okr := (tail_rp (i := a) (m := m) hs20 hst hle).ok (by decide) (by decide)
          refine ⟨_, pdT_st _ _, okr, ?_⟩
          refine ⟨stD (stepsOf (behS sts a m (if q ≤ n - 1 then q else n - 1))), ?_, ?_⟩
          · show atI (tailsD sts a m n) (if ((tailsD sts a m n).length : Int) - 1 < (q : Int) then ((tailsD sts a m n).length : Int) - 1 else (q : Int)) = _
            rw [htl]
            have e2 : (if (n : Int) - 1 < (q : Int) then (n : Int) - 1 else (q : Int)) = ((if q ≤ n - 1 then q else n - 1 : Nat) : Int) := by
              by_cases z : q ≤ n - 1
              · rw [if_pos z, if_neg (by omega)]
              · rw [if_neg z, if_pos (by omega)]; omega
            rw [e2]
            refine at_j _ rfl ?_
            unfold tailsD
            rw [List.getElem?_map, List.getElem?_range (by split <;> omega)]; rfl
          refine ⟨_, pdT_st _ _, okr, ?_⟩
          refine ifN (fun h => absurd rfl h) (fun _ => ?_)
          exact hN3 _ _ ⟨rfl, _, _, rfl⟩
        · subst f1 f2
          exact hN2 _ _ ⟨_, _, _, _, _, _, _, _, _, l5, rfl, mup_same, hb6⟩
      · exact hN2 _ _ ⟨_, _, _, _, _, _, _, _, _, l2, rfl, mup_same, hb2.mono (by omega)⟩
    · subst e1
      exact hN _ _ ⟨_, _, _, _, _, _, _, _, _, _, _, rfl⟩
  · subst e1
    have h1 : TailEnd [Stp.mk .c, .add 5, .mk .f, .mk .s] 0 .c 4 := ⟨by decide, fun t ht => (match t, ht with
      | 0, _ => by decide +kernel
      | 1, _ => by decide +kernel
      | 2, _ => by decide +kernel
      | k + 3, h => absurd h (by omega)), by decide +kernel⟩
    have h2 : TailEnd [Stp.mk .t, .add (-1)] 0 .t 1 := ⟨by decide, fun t ht => absurd ht (by omega), by decide +kernel⟩
    refine ⟨(show 4 ≤ sizeLine by decide), ⟨by decide, by decide⟩, ?_⟩
    have ep : ((10 : Int) ^ (30 : Int).toNat) = ((1000000000000000000000000000000 : Nat) : Int) := by decide +kernel
    show sp_tail_after _ [stD [Stp.mk .c, .add 5, .mk .f, .mk .s], .int (0 : Nat), .int ((10 : Int) ^ (30 : Int).toNat)] _ _ _
    rw [ep]
    refine sp_tail_after_ok (by decide) rfl h1 (by decide) ?_
    have v1 : stepsOf (behS [Stp.mk .c, .add 5, .mk .f, .mk .s] 0 .c (if 1000000000000000000000000000000 ≤ 4 - 1 then 1000000000000000000000000000000 else 4 - 1)) = [] := by decide +kernel
    rw [v1]
    refine ⟨(show 0 ≤ sizeLine by decide), _, _, pdT_st _ [], pdT_st _ [], shaped_st _, shaped_st _, ?_⟩
    refine ⟨(show 2 ≤ sizeLine by decide), ?_⟩
    refine sp_tail_after_ok (l := [Stp.mk .t, .add (-1)]) (p := 7) (by decide) rfl h2 (by decide) ?_
    have v2 : stepsOf (behS [Stp.mk .t, .add (-1)] 0 .t (if 7 ≤ 1 - 1 then 7 else 1 - 1)) = [.add (-1)] := by decide +kernel
    rw [v2]
    refine ⟨(show 1 ≤ sizeLine by decide), _, _, pdT_st _ [.add (-1)], pdT_st _ [.add (-1)], shaped_st _, shaped_st _, ?_⟩
    exact q _

end
/-! ### the end -/
theorem all_mk {l : PySem.W.OpenLaw} {w : World} {K : PySem.W.Frag} {h : Heap} {mg : Str → Option Value} {fa : Addr} (X : K.In h) (G : h.Ns mainGlobals mg) (hfa : mg "law" = some (.ref fa))
    {f_is_integer : Addr} {od_is_integer an_is_integer : Option Addr} {sl_is_integer : Array (Option Value)} {oc_is_integer kV_is_integer dc_is_integer pm_is_integer cd_is_integer ct_is_integer : Value}
    {f_is_mask : Addr} {od_is_mask an_is_mask : Option Addr} {sl_is_mask : Array (Option Value)} {oc_is_mask kV_is_mask dc_is_mask pm_is_mask cd_is_mask ct_is_mask : Value}
    {f_is_step : Addr} {od_is_step an_is_step : Option Addr} {sl_is_step : Array (Option Value)} {oc_is_step kV_is_step dc_is_step pm_is_step cd_is_step ct_is_step : Value}
    {f_is_steps : Addr} {od_is_steps an_is_steps : Option Addr} {sl_is_steps : Array (Option Value)} {oc_is_steps kV_is_steps dc_is_steps pm_is_steps cd_is_steps ct_is_steps : Value}
    {f_need_steps : Addr} {od_need_steps an_need_steps : Option Addr} {sl_need_steps : Array (Option Value)} {oc_need_steps kV_need_steps dc_need_steps pm_need_steps cd_need_steps ct_need_steps : Value}
    {f_need_mask_index : Addr} {od_need_mask_index an_need_mask_index : Option Addr} {sl_need_mask_index : Array (Option Value)} {oc_need_mask_index kV_need_mask_index dc_need_mask_index pm_need_mask_index cd_need_mask_index ct_need_mask_index : Value}
    {f_merged_steps : Addr} {od_merged_steps an_merged_steps : Option Addr} {sl_merged_steps : Array (Option Value)} {oc_merged_steps kV_merged_steps dc_merged_steps pm_merged_steps cd_merged_steps ct_merged_steps : Value}
    {f_start_of : Addr} {od_start_of an_start_of : Option Addr} {sl_start_of : Array (Option Value)} {oc_start_of kV_start_of dc_start_of pm_start_of cd_start_of ct_start_of : Value}
    {f_read_bit : Addr} {od_read_bit an_read_bit : Option Addr} {sl_read_bit : Array (Option Value)} {oc_read_bit kV_read_bit dc_read_bit pm_read_bit cd_read_bit ct_read_bit : Value}
    {f_steps_of : Addr} {od_steps_of an_steps_of : Option Addr} {sl_steps_of : Array (Option Value)} {oc_steps_of kV_steps_of dc_steps_of pm_steps_of cd_steps_of ct_steps_of : Value}
    {f_need_place : Addr} {od_need_place an_need_place : Option Addr} {sl_need_place : Array (Option Value)} {oc_need_place kV_need_place dc_need_place pm_need_place cd_need_place ct_need_place : Value}
    {f_states_behind : Addr} {od_states_behind an_states_behind : Option Addr} {sl_states_behind : Array (Option Value)} {oc_states_behind kV_states_behind dc_states_behind pm_states_behind cd_states_behind ct_states_behind : Value}
    {f_tails_of : Addr} {od_tails_of an_tails_of : Option Addr} {sl_tails_of : Array (Option Value)} {oc_tails_of kV_tails_of dc_tails_of pm_tails_of cd_tails_of ct_tails_of : Value}
    {f_settled_at : Addr} {od_settled_at an_settled_at : Option Addr} {sl_settled_at : Array (Option Value)} {oc_settled_at kV_settled_at dc_settled_at pm_settled_at cd_settled_at ct_settled_at : Value}
    {f_tail_after : Addr} {od_tail_after an_tail_after : Option Addr} {sl_tail_after : Array (Option Value)} {oc_tail_after kV_tail_after dc_tail_after pm_tail_after cd_tail_after ct_tail_after : Value}
    {f__law_barrel : Addr} {od__law_barrel an__law_barrel : Option Addr} {sl__law_barrel : Array (Option Value)} {oc__law_barrel kV__law_barrel dc__law_barrel pm__law_barrel cd__law_barrel ct__law_barrel : Value}
    {f__law_draw : Addr} {od__law_draw an__law_draw : Option Addr} {sl__law_draw : Array (Option Value)} {oc__law_draw kV__law_draw dc__law_draw pm__law_draw cd__law_draw ct__law_draw : Value}
    {f__law_some : Addr} {od__law_some an__law_some : Option Addr} {sl__law_some : Array (Option Value)} {oc__law_some kV__law_some dc__law_some pm__law_some cd__law_some ct__law_some : Value}
    {f__law_read : Addr} {od__law_read an__law_read : Option Addr} {sl__law_read : Array (Option Value)} {oc__law_read kV__law_read dc__law_read pm__law_read cd__law_read ct__law_read : Value}
    {f__law_bit : Addr} {od__law_bit an__law_bit : Option Addr} {sl__law_bit : Array (Option Value)} {oc__law_bit kV__law_bit dc__law_bit pm__law_bit cd__law_bit ct__law_bit : Value}
    {f__law_parts : Addr} {od__law_parts an__law_parts : Option Addr} {sl__law_parts : Array (Option Value)} {oc__law_parts kV__law_parts dc__law_parts pm__law_parts cd__law_parts ct__law_parts : Value}
    {f__law_joined : Addr} {od__law_joined an__law_joined : Option Addr} {sl__law_joined : Array (Option Value)} {oc__law_joined kV__law_joined dc__law_joined pm__law_joined cd__law_joined ct__law_joined : Value}
    {f__law_tails : Addr} {od__law_tails an__law_tails : Option Addr} {sl__law_tails : Array (Option Value)} {oc__law_tails kV__law_tails dc__law_tails pm__law_tails cd__law_tails ct__law_tails : Value}
    {f__law_places : Addr} {od__law_places an__law_places : Option Addr} {sl__law_places : Array (Option Value)} {oc__law_places kV__law_places dc__law_places pm__law_places cd__law_places ct__law_places : Value}
    {f_law : Addr} {od_law an_law : Option Addr} {sl_law : Array (Option Value)} {oc_law kV_law dc_law pm_law cd_law ct_law : Value}
    {d_TRIGGERS : Addr} {es_TRIGGERS : Array DictEntry} {n_TRIGGERS : Nat}
    {d_WRITTEN_BITS : Addr} {es_WRITTEN_BITS : Array DictEntry} {n_WRITTEN_BITS : Nat}
    {E_InvalidSteps : Addr}
    {E_InvalidIndex : Addr}
    {E_InvalidPlace : Addr}
    (a_is_integer : PySem.W.nsIn K mainGlobals "is_integer" = some (some (.ref f_is_integer)))
    (l_is_integer : K.lookup f_is_integer = some ⟨oc_is_integer, od_is_integer, .func (PySem.W.fnOf "is_integer" "is_integer" (defArgs s_is_integer) (defBody s_is_integer) (defScope s_is_integer) .none kV_is_integer dc_is_integer pm_is_integer an_is_integer cd_is_integer ct_is_integer), sl_is_integer⟩)
    (c_is_integer_ : PySem.W.codeIn K cd_is_integer "is_integer" = true)
    (k_is_integer : PySem.W.keepIn K (.ref f_is_integer) = true)
    (a_is_mask : PySem.W.nsIn K mainGlobals "is_mask" = some (some (.ref f_is_mask)))
    (l_is_mask : K.lookup f_is_mask = some ⟨oc_is_mask, od_is_mask, .func (PySem.W.fnOf "is_mask" "is_mask" (defArgs s_is_mask) (defBody s_is_mask) (defScope s_is_mask) .none kV_is_mask dc_is_mask pm_is_mask an_is_mask cd_is_mask ct_is_mask), sl_is_mask⟩)
    (c_is_mask_ : PySem.W.codeIn K cd_is_mask "is_mask" = true)
    (k_is_mask : PySem.W.keepIn K (.ref f_is_mask) = true)
    (a_is_step : PySem.W.nsIn K mainGlobals "is_step" = some (some (.ref f_is_step)))
    (l_is_step : K.lookup f_is_step = some ⟨oc_is_step, od_is_step, .func (PySem.W.fnOf "is_step" "is_step" (defArgs s_is_step) (defBody s_is_step) (defScope s_is_step) .none kV_is_step dc_is_step pm_is_step an_is_step cd_is_step ct_is_step), sl_is_step⟩)
    (c_is_step_ : PySem.W.codeIn K cd_is_step "is_step" = true)
    (k_is_step : PySem.W.keepIn K (.ref f_is_step) = true)
    (a_is_steps : PySem.W.nsIn K mainGlobals "is_steps" = some (some (.ref f_is_steps)))
    (l_is_steps : K.lookup f_is_steps = some ⟨oc_is_steps, od_is_steps, .func (PySem.W.fnOf "is_steps" "is_steps" (defArgs s_is_steps) (defBody s_is_steps) (defScope s_is_steps) .none kV_is_steps dc_is_steps pm_is_steps an_is_steps cd_is_steps ct_is_steps), sl_is_steps⟩)
    (c_is_steps_ : PySem.W.codeIn K cd_is_steps "is_steps" = true)
    (k_is_steps : PySem.W.keepIn K (.ref f_is_steps) = true)
    (a_need_steps : PySem.W.nsIn K mainGlobals "need_steps" = some (some (.ref f_need_steps)))
    (l_need_steps : K.lookup f_need_steps = some ⟨oc_need_steps, od_need_steps, .func (PySem.W.fnOf "need_steps" "need_steps" (defArgs s_need_steps) (defBody s_need_steps) (defScope s_need_steps) .none kV_need_steps dc_need_steps pm_need_steps an_need_steps cd_need_steps ct_need_steps), sl_need_steps⟩)
    (c_need_steps_ : PySem.W.codeIn K cd_need_steps "need_steps" = true)
    (k_need_steps : PySem.W.keepIn K (.ref f_need_steps) = true)
    (a_need_mask_index : PySem.W.nsIn K mainGlobals "need_mask_index" = some (some (.ref f_need_mask_index)))
    (l_need_mask_index : K.lookup f_need_mask_index = some ⟨oc_need_mask_index, od_need_mask_index, .func (PySem.W.fnOf "need_mask_index" "need_mask_index" (defArgs s_need_mask_index) (defBody s_need_mask_index) (defScope s_need_mask_index) .none kV_need_mask_index dc_need_mask_index pm_need_mask_index an_need_mask_index cd_need_mask_index ct_need_mask_index), sl_need_mask_index⟩)
    (c_need_mask_index_ : PySem.W.codeIn K cd_need_mask_index "need_mask_index" = true)
    (k_need_mask_index : PySem.W.keepIn K (.ref f_need_mask_index) = true)
    (a_merged_steps : PySem.W.nsIn K mainGlobals "merged_steps" = some (some (.ref f_merged_steps)))
    (l_merged_steps : K.lookup f_merged_steps = some ⟨oc_merged_steps, od_merged_steps, .func (PySem.W.fnOf "merged_steps" "merged_steps" (defArgs s_merged_steps) (defBody s_merged_steps) (defScope s_merged_steps) .none kV_merged_steps dc_merged_steps pm_merged_steps an_merged_steps cd_merged_steps ct_merged_steps), sl_merged_steps⟩)
    (c_merged_steps_ : PySem.W.codeIn K cd_merged_steps "merged_steps" = true)
    (k_merged_steps : PySem.W.keepIn K (.ref f_merged_steps) = true)
    (a_start_of : PySem.W.nsIn K mainGlobals "start_of" = some (some (.ref f_start_of)))
    (l_start_of : K.lookup f_start_of = some ⟨oc_start_of, od_start_of, .func (PySem.W.fnOf "start_of" "start_of" (defArgs s_start_of) (defBody s_start_of) (defScope s_start_of) .none kV_start_of dc_start_of pm_start_of an_start_of cd_start_of ct_start_of), sl_start_of⟩)
    (c_start_of_ : PySem.W.codeIn K cd_start_of "start_of" = true)
    (k_start_of : PySem.W.keepIn K (.ref f_start_of) = true)
    (a_read_bit : PySem.W.nsIn K mainGlobals "read_bit" = some (some (.ref f_read_bit)))
    (l_read_bit : K.lookup f_read_bit = some ⟨oc_read_bit, od_read_bit, .func (PySem.W.fnOf "read_bit" "read_bit" (defArgs s_read_bit) (defBody s_read_bit) (defScope s_read_bit) .none kV_read_bit dc_read_bit pm_read_bit an_read_bit cd_read_bit ct_read_bit), sl_read_bit⟩)
    (c_read_bit_ : PySem.W.codeIn K cd_read_bit "read_bit" = true)
    (k_read_bit : PySem.W.keepIn K (.ref f_read_bit) = true)
    (a_steps_of : PySem.W.nsIn K mainGlobals "steps_of" = some (some (.ref f_steps_of)))
    (l_steps_of : K.lookup f_steps_of = some ⟨oc_steps_of, od_steps_of, .func (PySem.W.fnOf "steps_of" "steps_of" (defArgs s_steps_of) (defBody s_steps_of) (defScope s_steps_of) .none kV_steps_of dc_steps_of pm_steps_of an_steps_of cd_steps_of ct_steps_of), sl_steps_of⟩)
    (c_steps_of_ : PySem.W.codeIn K cd_steps_of "steps_of" = true)
    (k_steps_of : PySem.W.keepIn K (.ref f_steps_of) = true)
    (a_need_place : PySem.W.nsIn K mainGlobals "need_place" = some (some (.ref f_need_place)))
    (l_need_place : K.lookup f_need_place = some ⟨oc_need_place, od_need_place, .func (PySem.W.fnOf "need_place" "need_place" (defArgs s_need_place) (defBody s_need_place) (defScope s_need_place) .none kV_need_place dc_need_place pm_need_place an_need_place cd_need_place ct_need_place), sl_need_place⟩)
    (c_need_place_ : PySem.W.codeIn K cd_need_place "need_place" = true)
    (k_need_place : PySem.W.keepIn K (.ref f_need_place) = true)
    (a_states_behind : PySem.W.nsIn K mainGlobals "states_behind" = some (some (.ref f_states_behind)))
    (l_states_behind : K.lookup f_states_behind = some ⟨oc_states_behind, od_states_behind, .func (PySem.W.fnOf "states_behind" "states_behind" (defArgs s_states_behind) (defBody s_states_behind) (defScope s_states_behind) .none kV_states_behind dc_states_behind pm_states_behind an_states_behind cd_states_behind ct_states_behind), sl_states_behind⟩)
    (c_states_behind_ : PySem.W.codeIn K cd_states_behind "states_behind" = true)
    (k_states_behind : PySem.W.keepIn K (.ref f_states_behind) = true)
    (a_tails_of : PySem.W.nsIn K mainGlobals "tails_of" = some (some (.ref f_tails_of)))
    (l_tails_of : K.lookup f_tails_of = some ⟨oc_tails_of, od_tails_of, .func (PySem.W.fnOf "tails_of" "tails_of" (defArgs s_tails_of) (defBody s_tails_of) (defScope s_tails_of) .none kV_tails_of dc_tails_of pm_tails_of an_tails_of cd_tails_of ct_tails_of), sl_tails_of⟩)
    (c_tails_of_ : PySem.W.codeIn K cd_tails_of "tails_of" = true)
    (k_tails_of : PySem.W.keepIn K (.ref f_tails_of) = true)
    (a_settled_at : PySem.W.nsIn K mainGlobals "settled_at" = some (some (.ref f_settled_at)))
    (l_settled_at : K.lookup f_settled_at = some ⟨oc_settled_at, od_settled_at, .func (PySem.W.fnOf "settled_at" "settled_at" (defArgs s_settled_at) (defBody s_settled_at) (defScope s_settled_at) .none kV_settled_at dc_settled_at pm_settled_at an_settled_at cd_settled_at ct_settled_at), sl_settled_at⟩)
    (c_settled_at_ : PySem.W.codeIn K cd_settled_at "settled_at" = true)
    (k_settled_at : PySem.W.keepIn K (.ref f_settled_at) = true)
    (a_tail_after : PySem.W.nsIn K mainGlobals "tail_after" = some (some (.ref f_tail_after)))
    (l_tail_after : K.lookup f_tail_after = some ⟨oc_tail_after, od_tail_after, .func (PySem.W.fnOf "tail_after" "tail_after" (defArgs s_tail_after) (defBody s_tail_after) (defScope s_tail_after) .none kV_tail_after dc_tail_after pm_tail_after an_tail_after cd_tail_after ct_tail_after), sl_tail_after⟩)
    (c_tail_after_ : PySem.W.codeIn K cd_tail_after "tail_after" = true)
    (k_tail_after : PySem.W.keepIn K (.ref f_tail_after) = true)
    (a__law_barrel : PySem.W.nsIn K mainGlobals "_law_barrel" = some (some (.ref f__law_barrel)))
    (l__law_barrel : K.lookup f__law_barrel = some ⟨oc__law_barrel, od__law_barrel, .func (PySem.W.fnOf "_law_barrel" "_law_barrel" (defArgs s__law_barrel) (defBody s__law_barrel) (defScope s__law_barrel) .none kV__law_barrel dc__law_barrel pm__law_barrel an__law_barrel cd__law_barrel ct__law_barrel), sl__law_barrel⟩)
    (c__law_barrel_ : PySem.W.codeIn K cd__law_barrel "_law_barrel" = true)
    (k__law_barrel : PySem.W.keepIn K (.ref f__law_barrel) = true)
    (a__law_draw : PySem.W.nsIn K mainGlobals "_law_draw" = some (some (.ref f__law_draw)))
    (l__law_draw : K.lookup f__law_draw = some ⟨oc__law_draw, od__law_draw, .func (PySem.W.fnOf "_law_draw" "_law_draw" (defArgs s__law_draw) (defBody s__law_draw) (defScope s__law_draw) .none kV__law_draw dc__law_draw pm__law_draw an__law_draw cd__law_draw ct__law_draw), sl__law_draw⟩)
    (c__law_draw_ : PySem.W.codeIn K cd__law_draw "_law_draw" = true)
    (k__law_draw : PySem.W.keepIn K (.ref f__law_draw) = true)
    (a__law_some : PySem.W.nsIn K mainGlobals "_law_some" = some (some (.ref f__law_some)))
    (l__law_some : K.lookup f__law_some = some ⟨oc__law_some, od__law_some, .func (PySem.W.fnOf "_law_some" "_law_some" (defArgs s__law_some) (defBody s__law_some) (defScope s__law_some) .none kV__law_some dc__law_some pm__law_some an__law_some cd__law_some ct__law_some), sl__law_some⟩)
    (c__law_some_ : PySem.W.codeIn K cd__law_some "_law_some" = true)
    (k__law_some : PySem.W.keepIn K (.ref f__law_some) = true)
    (a__law_read : PySem.W.nsIn K mainGlobals "_law_read" = some (some (.ref f__law_read)))
    (l__law_read : K.lookup f__law_read = some ⟨oc__law_read, od__law_read, .func (PySem.W.fnOf "_law_read" "_law_read" (defArgs s__law_read) (defBody s__law_read) (defScope s__law_read) .none kV__law_read dc__law_read pm__law_read an__law_read cd__law_read ct__law_read), sl__law_read⟩)
    (c__law_read_ : PySem.W.codeIn K cd__law_read "_law_read" = true)
    (k__law_read : PySem.W.keepIn K (.ref f__law_read) = true)
    (a__law_bit : PySem.W.nsIn K mainGlobals "_law_bit" = some (some (.ref f__law_bit)))
    (l__law_bit : K.lookup f__law_bit = some ⟨oc__law_bit, od__law_bit, .func (PySem.W.fnOf "_law_bit" "_law_bit" (defArgs s__law_bit) (defBody s__law_bit) (defScope s__law_bit) .none kV__law_bit dc__law_bit pm__law_bit an__law_bit cd__law_bit ct__law_bit), sl__law_bit⟩)
    (c__law_bit_ : PySem.W.codeIn K cd__law_bit "_law_bit" = true)
    (k__law_bit : PySem.W.keepIn K (.ref f__law_bit) = true)
    (a__law_parts : PySem.W.nsIn K mainGlobals "_law_parts" = some (some (.ref f__law_parts)))
    (l__law_parts : K.lookup f__law_parts = some ⟨oc__law_parts, od__law_parts, .func (PySem.W.fnOf "_law_parts" "_law_parts" (defArgs s__law_parts) (defBody s__law_parts) (defScope s__law_parts) .none kV__law_parts dc__law_parts pm__law_parts an__law_parts cd__law_parts ct__law_parts), sl__law_parts⟩)
    (c__law_parts_ : PySem.W.codeIn K cd__law_parts "_law_parts" = true)
    (k__law_parts : PySem.W.keepIn K (.ref f__law_parts) = true)
    (a__law_joined : PySem.W.nsIn K mainGlobals "_law_joined" = some (some (.ref f__law_joined)))
    (l__law_joined : K.lookup f__law_joined = some ⟨oc__law_joined, od__law_joined, .func (PySem.W.fnOf "_law_joined" "_law_joined" (defArgs s__law_joined) (defBody s__law_joined) (defScope s__law_joined) .none kV__law_joined dc__law_joined pm__law_joined an__law_joined cd__law_joined ct__law_joined), sl__law_joined⟩)
    (c__law_joined_ : PySem.W.codeIn K cd__law_joined "_law_joined" = true)
    (k__law_joined : PySem.W.keepIn K (.ref f__law_joined) = true)
    (a__law_tails : PySem.W.nsIn K mainGlobals "_law_tails" = some (some (.ref f__law_tails)))
    (l__law_tails : K.lookup f__law_tails = some ⟨oc__law_tails, od__law_tails, .func (PySem.W.fnOf "_law_tails" "_law_tails" (defArgs s__law_tails) (defBody s__law_tails) (defScope s__law_tails) .none kV__law_tails dc__law_tails pm__law_tails an__law_tails cd__law_tails ct__law_tails), sl__law_tails⟩)
    (c__law_tails_ : PySem.W.codeIn K cd__law_tails "_law_tails" = true)
    (k__law_tails : PySem.W.keepIn K (.ref f__law_tails) = true)
    (a__law_places : PySem.W.nsIn K mainGlobals "_law_places" = some (some (.ref f__law_places)))
    (l__law_places : K.lookup f__law_places = some ⟨oc__law_places, od__law_places, .func (PySem.W.fnOf "_law_places" "_law_places" (defArgs s__law_places) (defBody s__law_places) (defScope s__law_places) .none kV__law_places dc__law_places pm__law_places an__law_places cd__law_places ct__law_places), sl__law_places⟩)
    (c__law_places_ : PySem.W.codeIn K cd__law_places "_law_places" = true)
    (k__law_places : PySem.W.keepIn K (.ref f__law_places) = true)
    (a_law : PySem.W.nsIn K mainGlobals "law" = some (some (.ref f_law)))
    (l_law : K.lookup f_law = some ⟨oc_law, od_law, .func (PySem.W.fnOf "law" "law" (defArgs s_law) (defBody s_law) (defScope s_law) .none kV_law dc_law pm_law an_law cd_law ct_law), sl_law⟩)
    (c_law_ : PySem.W.codeIn K cd_law "law" = true)
    (k_law : PySem.W.keepIn K (.ref f_law) = true)
    (z_isinstance : PySem.W.nsIn K mainGlobals "isinstance" = some none)
    (z_bool : PySem.W.nsIn K mainGlobals "bool" = some none)
    (z_int : PySem.W.nsIn K mainGlobals "int" = some none)
    (z_str : PySem.W.nsIn K mainGlobals "str" = some none)
    (z_all : PySem.W.nsIn K mainGlobals "all" = some none)
    (z_tuple : PySem.W.nsIn K mainGlobals "tuple" = some none)
    (z_len : PySem.W.nsIn K mainGlobals "len" = some none)
    (z_enumerate : PySem.W.nsIn K mainGlobals "enumerate" = some none)
    (z_list : PySem.W.nsIn K mainGlobals "list" = some none)
    (z_min : PySem.W.nsIn K mainGlobals "min" = some none)
    (z_max : PySem.W.nsIn K mainGlobals "max" = some none)
    (z_range : PySem.W.nsIn K mainGlobals "range" = some none)
    (z_repr : PySem.W.nsIn K mainGlobals "repr" = some none)
    (a_TRIGGERS : PySem.W.nsIn K mainGlobals "TRIGGERS" = some (some (.ref d_TRIGGERS)))
    (l_TRIGGERS : K.lookup d_TRIGGERS = some ⟨.type "dict", none, .dict es_TRIGGERS n_TRIGGERS, #[]⟩)
    (s_TRIGGERS_ : (d_TRIGGERS == sysModules) = false)
    (e_TRIGGERS : Paired (fun (kv : Str × D) (e : DictEntry) => (∃ t, e.key = .str kv.1 t) ∧ e.hash = PyData.keyHash w.params kv.1 ∧ ∃ v, vOf kv.2 = some v ∧ RelV v e.val) tab_TRIGGERS es_TRIGGERS.toList)
    (a_WRITTEN_BITS : PySem.W.nsIn K mainGlobals "WRITTEN_BITS" = some (some (.ref d_WRITTEN_BITS)))
    (l_WRITTEN_BITS : K.lookup d_WRITTEN_BITS = some ⟨.type "dict", none, .dict es_WRITTEN_BITS n_WRITTEN_BITS, #[]⟩)
    (s_WRITTEN_BITS_ : (d_WRITTEN_BITS == sysModules) = false)
    (e_WRITTEN_BITS : Paired (fun (kv : Str × D) (e : DictEntry) => (∃ t, e.key = .str kv.1 t) ∧ e.hash = PyData.keyHash w.params kv.1 ∧ ∃ v, vOf kv.2 = some v ∧ RelV v e.val) tab_WRITTEN_BITS es_WRITTEN_BITS.toList)
    (a_InvalidSteps : PySem.W.nsIn K mainGlobals "InvalidSteps" = some (some (.ref E_InvalidSteps)))
    (k_InvalidSteps : PySem.W.keepIn K (.ref E_InvalidSteps) = true)
    (x_InvalidSteps : PySem.W.excIn K E_InvalidSteps [.type "ValueError", .type "Exception", .type "BaseException", .type "object"] "ValueError.__new__" = true)
    (b_InvalidSteps : PySem.W.subIn K (.ref E_InvalidSteps) (.type "BaseException") = some true)
    (t_InvalidSteps_ : PySem.W.typeIn K (.ref E_InvalidSteps) = some (.type "type"))
    (a_InvalidIndex : PySem.W.nsIn K mainGlobals "InvalidIndex" = some (some (.ref E_InvalidIndex)))
    (k_InvalidIndex : PySem.W.keepIn K (.ref E_InvalidIndex) = true)
    (x_InvalidIndex : PySem.W.excIn K E_InvalidIndex [.type "ValueError", .type "Exception", .type "BaseException", .type "object"] "ValueError.__new__" = true)
    (b_InvalidIndex : PySem.W.subIn K (.ref E_InvalidIndex) (.type "BaseException") = some true)
    (t_InvalidIndex_ : PySem.W.typeIn K (.ref E_InvalidIndex) = some (.type "type"))
    (a_InvalidPlace : PySem.W.nsIn K mainGlobals "InvalidPlace" = some (some (.ref E_InvalidPlace)))
    (k_InvalidPlace : PySem.W.keepIn K (.ref E_InvalidPlace) = true)
    (x_InvalidPlace : PySem.W.excIn K E_InvalidPlace [.type "ValueError", .type "Exception", .type "BaseException", .type "object"] "ValueError.__new__" = true)
    (b_InvalidPlace : PySem.W.subIn K (.ref E_InvalidPlace) (.type "BaseException") = some true)
    (t_InvalidPlace_ : PySem.W.typeIn K (.ref E_InvalidPlace) = some (.type "type")) :
    ∃ fd : FuncData, (∀ (s : Shared) (u : Value), BindsTo s fd ⟨[u], []⟩ [("script", u)]) ∧ ∀ base : Heap, K.In base → base.Ns mainGlobals mg → FnG l.prog w K mg base 13 fa fd ["script"] (lSp K lawSp) := by
  have e := hfa.symm.trans (PySem.W.mg_of X G a_law)
  cases e
  have t_TRIGGERS : WTab w K mg "TRIGGERS" tab_TRIGGERS := ⟨_, _, _, PySem.W.mg_of X G a_TRIGGERS, s_TRIGGERS_, l_TRIGGERS, e_TRIGGERS⟩
  have t_WRITTEN_BITS : WTab w K mg "WRITTEN_BITS" tab_WRITTEN_BITS := ⟨_, _, _, PySem.W.mg_of X G a_WRITTEN_BITS, s_WRITTEN_BITS_, l_WRITTEN_BITS, e_WRITTEN_BITS⟩
  have X_InvalidSteps : ExcC K mg "InvalidSteps" E_InvalidSteps := ⟨PySem.W.mg_of X G a_InvalidSteps, k_InvalidSteps, x_InvalidSteps, b_InvalidSteps, t_InvalidSteps_⟩
  have X_InvalidIndex : ExcC K mg "InvalidIndex" E_InvalidIndex := ⟨PySem.W.mg_of X G a_InvalidIndex, k_InvalidIndex, x_InvalidIndex, b_InvalidIndex, t_InvalidIndex_⟩
  have X_InvalidPlace : ExcC K mg "InvalidPlace" E_InvalidPlace := ⟨PySem.W.mg_of X G a_InvalidPlace, k_InvalidPlace, x_InvalidPlace, b_InvalidPlace, t_InvalidPlace_⟩
  have m_isinstance : mg "isinstance" = none := PySem.W.mg_none_of X G z_isinstance
  have m_bool : mg "bool" = none := PySem.W.mg_none_of X G z_bool
  have m_int : mg "int" = none := PySem.W.mg_none_of X G z_int
  have m_str : mg "str" = none := PySem.W.mg_none_of X G z_str
  have m_all : mg "all" = none := PySem.W.mg_none_of X G z_all
  have m_tuple : mg "tuple" = none := PySem.W.mg_none_of X G z_tuple
  have m_len : mg "len" = none := PySem.W.mg_none_of X G z_len
  have m_enumerate : mg "enumerate" = none := PySem.W.mg_none_of X G z_enumerate
  have m_list : mg "list" = none := PySem.W.mg_none_of X G z_list
  have m_min : mg "min" = none := PySem.W.mg_none_of X G z_min
  have m_max : mg "max" = none := PySem.W.mg_none_of X G z_max
  have m_range : mg "range" = none := PySem.W.mg_none_of X G z_range
  have m_repr : mg "repr" = none := PySem.W.mg_none_of X G z_repr
  refine ⟨PySem.W.fnOf "law" "law" (defArgs s_law) (defBody s_law) (defScope s_law) .none kV_law dc_law pm_law an_law cd_law ct_law, fun s v => .of_eq rfl, fun base _ _ => ?_⟩
  have C_is_integer : Callee l.prog w K mg base "is_integer" 1 ["value", "least", "most"] sp_is_integer := c_is_integer (fun_mk (st := s_is_integer) l_is_integer c_is_integer_ k_is_integer) (PySem.W.mg_of X G a_is_integer) m_isinstance m_bool m_int
  have C_is_mask : Callee l.prog w K mg base "is_mask" 1 ["value"] sp_is_mask := c_is_mask (fun_mk (st := s_is_mask) l_is_mask c_is_mask_ k_is_mask) (PySem.W.mg_of X G a_is_mask) m_isinstance m_str t_TRIGGERS
  have C_is_step : Callee l.prog w K mg base "is_step" 2 ["value"] sp_is_step := c_is_step (fun_mk (st := s_is_step) l_is_step c_is_step_ k_is_step) (PySem.W.mg_of X G a_is_step) C_is_mask C_is_integer
  have C_is_steps : Callee l.prog w K mg base "is_steps" 3 ["value"] sp_is_steps := c_is_steps (fun_mk (st := s_is_steps) l_is_steps c_is_steps_ k_is_steps) (PySem.W.mg_of X G a_is_steps) m_all m_isinstance m_tuple C_is_step
  have C_need_steps : Callee l.prog w K mg base "need_steps" 4 ["value"] (sp_need_steps E_InvalidSteps) := c_need_steps (fun_mk (st := s_need_steps) l_need_steps c_need_steps_ k_need_steps) (PySem.W.mg_of X G a_need_steps) X_InvalidSteps C_is_steps
  have C_need_mask_index : Callee l.prog w K mg base "need_mask_index" 2 ["steps", "value"] (sp_need_mask_index E_InvalidIndex) := c_need_mask_index (fun_mk (st := s_need_mask_index) l_need_mask_index c_need_mask_index_ k_need_mask_index) (PySem.W.mg_of X G a_need_mask_index) m_len X_InvalidIndex C_is_mask C_is_integer
  have C_merged_steps : Callee l.prog w K mg base "merged_steps" 2 ["steps"] sp_merged_steps := c_merged_steps (fun_mk (st := s_merged_steps) l_merged_steps c_merged_steps_ k_merged_steps) (PySem.W.mg_of X G a_merged_steps) m_tuple C_is_mask
  have C_start_of : Callee l.prog w K mg base "start_of" 2 ["steps"] sp_start_of := c_start_of (fun_mk (st := s_start_of) l_start_of c_start_of_ k_start_of) (PySem.W.mg_of X G a_start_of) m_tuple m_enumerate C_is_mask
  have C_read_bit : Callee l.prog w K mg base "read_bit" 1 ["state", "bit"] sp_read_bit := c_read_bit (fun_mk (st := s_read_bit) l_read_bit c_read_bit_ k_read_bit) (PySem.W.mg_of X G a_read_bit) m_tuple t_WRITTEN_BITS t_TRIGGERS
  have C_steps_of : Callee l.prog w K mg base "steps_of" 3 ["state"] sp_steps_of := c_steps_of (fun_mk (st := s_steps_of) l_steps_of c_steps_of_ k_steps_of) (PySem.W.mg_of X G a_steps_of) C_merged_steps
  have C_need_place : Callee l.prog w K mg base "need_place" 2 ["value", "most"] (sp_need_place E_InvalidPlace) := c_need_place (fun_mk (st := s_need_place) l_need_place c_need_place_ k_need_place) (PySem.W.mg_of X G a_need_place) X_InvalidPlace C_is_integer
  have C_states_behind : GenCallee l.prog w K mg base "states_behind" 3 ["steps", "index"] sp_states_behind := c_states_behind (fun_mk (st := s_states_behind) l_states_behind c_states_behind_ k_states_behind) (PySem.W.mg_of X G a_states_behind) t_WRITTEN_BITS C_start_of C_read_bit
  have C_tails_of : GenCallee l.prog w K mg base "tails_of" 5 ["steps", "index"] sp_tails_of := c_tails_of (fun_mk (st := s_tails_of) l_tails_of c_tails_of_ k_tails_of) (PySem.W.mg_of X G a_tails_of) C_need_steps C_need_mask_index C_steps_of C_start_of C_states_behind
  have C_settled_at : Callee l.prog w K mg base "settled_at" 12 ["steps", "index"] sp_settled_at := c_settled_at (fun_mk (st := s_settled_at) l_settled_at c_settled_at_ k_settled_at) (PySem.W.mg_of X G a_settled_at) m_len m_list C_tails_of
  have C_tail_after : Callee l.prog w K mg base "tail_after" 12 ["steps", "index", "place"] (sp_tail_after E_InvalidPlace) := c_tail_after (fun_mk (st := s_tail_after) l_tail_after c_tail_after_ k_tail_after) (PySem.W.mg_of X G a_tail_after) m_min m_len m_list C_need_place C_tails_of
  have C__law_barrel : CalleeG l.prog w K mg base "_law_barrel" 1 ["script", "k"] sp__law_barrel := c__law_barrel (fun_mk (st := s__law_barrel) l__law_barrel c__law_barrel_ k__law_barrel) (PySem.W.mg_of X G a__law_barrel) m_max m_len
  have C__law_draw : CalleeG l.prog w K mg base "_law_draw" 1 ["barrel", "many"] sp__law_draw := c__law_draw (fun_mk (st := s__law_draw) l__law_draw c__law_draw_ k__law_draw) (PySem.W.mg_of X G a__law_draw) 
  have C__law_some : CalleeG l.prog w K mg base "_law_some" 2 ["barrel", "most"] sp__law_some := c__law_some (fun_mk (st := s__law_some) l__law_some c__law_some_ k__law_some) (PySem.W.mg_of X G a__law_some) m_tuple m_range C__law_draw
  have C__law_read : CalleeG l.prog w K mg base "_law_read" 1 ["mask", "signal"] sp__law_read_b := c__law_read (fun_mk (st := s__law_read) l__law_read c__law_read_ k__law_read) (PySem.W.mg_of X G a__law_read) 
  have C__law_bit : CalleeG l.prog w K mg base "_law_bit" 2 ["parts", "signal"] sp__law_bit_b := c__law_bit (fun_mk (st := s__law_bit) l__law_bit c__law_bit_ k__law_bit) (PySem.W.mg_of X G a__law_bit) m_isinstance m_int C__law_read
  have C__law_parts : CalleeG l.prog w K mg base "_law_parts" 1 ["some"] sp__law_parts := c__law_parts (fun_mk (st := s__law_parts) l__law_parts c__law_parts_ k__law_parts) (PySem.W.mg_of X G a__law_parts) m_enumerate
  have C__law_joined : CalleeG l.prog w K mg base "_law_joined" 1 ["parts"] sp__law_joined_p := c__law_joined (fun_mk (st := s__law_joined) l__law_joined c__law_joined_ k__law_joined) (PySem.W.mg_of X G a__law_joined) m_tuple m_int m_isinstance
  have C__law_tails : CalleeG l.prog w K mg base "_law_tails" 3 ["some", "index"] sp__law_tails_q := c__law_tails (fun_mk (st := s__law_tails) l__law_tails c__law_tails_ k__law_tails) (PySem.W.mg_of X G a__law_tails) m_range C__law_joined C__law_bit C__law_parts
  have C__law_places : CalleeG l.prog w K mg base "_law_places" 1 ["some"] sp__law_places_q := c__law_places (fun_mk (st := s__law_places) l__law_places c__law_places_ k__law_places) (PySem.W.mg_of X G a__law_places) m_enumerate m_isinstance m_int
  exact c_law (fun_mk (st := s_law) l_law c_law_ k_law) m_range m_max m_min m_len m_repr C_tail_after C__law_draw C_settled_at C__law_tails C__law_places C__law_some C__law_barrel
end Lt
open PySem PySem.W PyProof.Rows
set_option maxHeartbeats 0 in
theorem PySem.Challenge.cw_lowtricks_k16_tails_after_any_number_of_holds : PySem.Challenge.rw_lowtricks_k16_tails_after_any_number_of.Holds := by
  w_on; o_law; k_head; (case hw => w_witness2)
  k_fill
  refine Lt.walkG (l := PySem.Challenge.rw_lowtricks_k16_tails_after_any_number_of) (k := 13) (x := "script") rfl rfl ⟨rfl, by decide, by decide⟩ (fun w h Y => PySem.W.kIn_of Y) ?F
  case F =>
    intro w mg fa h KX G hmg
    refine' Lt.all_mk KX G hmg ?a_is_integer ?l_is_integer ?c_is_integer_ ?k_is_integer ?a_is_mask ?l_is_mask ?c_is_mask_ ?k_is_mask ?a_is_step ?l_is_step ?c_is_step_ ?k_is_step ?a_is_steps ?l_is_steps ?c_is_steps_ ?k_is_steps ?a_need_steps ?l_need_steps ?c_need_steps_ ?k_need_steps ?a_need_mask_index ?l_need_mask_index ?c_need_mask_index_ ?k_need_mask_index ?a_merged_steps ?l_merged_steps ?c_merged_steps_ ?k_merged_steps ?a_start_of ?l_start_of ?c_start_of_ ?k_start_of ?a_read_bit ?l_read_bit ?c_read_bit_ ?k_read_bit ?a_steps_of ?l_steps_of ?c_steps_of_ ?k_steps_of ?a_need_place ?l_need_place ?c_need_place_ ?k_need_place ?a_states_behind ?l_states_behind ?c_states_behind_ ?k_states_behind ?a_tails_of ?l_tails_of ?c_tails_of_ ?k_tails_of ?a_settled_at ?l_settled_at ?c_settled_at_ ?k_settled_at ?a_tail_after ?l_tail_after ?c_tail_after_ ?k_tail_after ?a__law_barrel ?l__law_barrel ?c__law_barrel_ ?k__law_barrel ?a__law_draw ?l__law_draw ?c__law_draw_ ?k__law_draw ?a__law_some ?l__law_some ?c__law_some_ ?k__law_some ?a__law_read ?l__law_read ?c__law_read_ ?k__law_read ?a__law_bit ?l__law_bit ?c__law_bit_ ?k__law_bit ?a__law_parts ?l__law_parts ?c__law_parts_ ?k__law_parts ?a__law_joined ?l__law_joined ?c__law_joined_ ?k__law_joined ?a__law_tails ?l__law_tails ?c__law_tails_ ?k__law_tails ?a__law_places ?l__law_places ?c__law_places_ ?k__law_places ?a_law ?l_law ?c_law_ ?k_law ?z_isinstance ?z_bool ?z_int ?z_str ?z_all ?z_tuple ?z_len ?z_enumerate ?z_list ?z_min ?z_max ?z_range ?z_repr ?a_TRIGGERS ?l_TRIGGERS ?s_TRIGGERS_ ?e_TRIGGERS ?a_WRITTEN_BITS ?l_WRITTEN_BITS ?s_WRITTEN_BITS_ ?e_WRITTEN_BITS ?a_InvalidSteps ?k_InvalidSteps ?x_InvalidSteps ?b_InvalidSteps ?t_InvalidSteps_ ?a_InvalidIndex ?k_InvalidIndex ?x_InvalidIndex ?b_InvalidIndex ?t_InvalidIndex_ ?a_InvalidPlace ?k_InvalidPlace ?x_InvalidPlace ?b_InvalidPlace ?t_InvalidPlace_
    (case a_is_integer => k_is)
    (case l_is_integer => k_is)
    (case c_is_integer_ => k_is)
    (case k_is_integer => k_is)
    (case a_is_mask => k_is)
    (case l_is_mask => k_is)
    (case c_is_mask_ => k_is)
    (case k_is_mask => k_is)
    (case a_is_step => k_is)
    (case l_is_step => k_is)
    (case c_is_step_ => k_is)
    (case k_is_step => k_is)
    (case a_is_steps => k_is)
    (case l_is_steps => k_is)
    (case c_is_steps_ => k_is)
    (case k_is_steps => k_is)
    (case a_need_steps => k_is)
    (case l_need_steps => k_is)
    (case c_need_steps_ => k_is)
    (case k_need_steps => k_is)
    (case a_need_mask_index => k_is)
    (case l_need_mask_index => k_is)
    (case c_need_mask_index_ => k_is)
    (case k_need_mask_index => k_is)
    (case a_merged_steps => k_is)
    (case l_merged_steps => k_is)
    (case c_merged_steps_ => k_is)
    (case k_merged_steps => k_is)
    (case a_start_of => k_is)
    (case l_start_of => k_is)
    (case c_start_of_ => k_is)
    (case k_start_of => k_is)
    (case a_read_bit => k_is)
    (case l_read_bit => k_is)
    (case c_read_bit_ => k_is)
    (case k_read_bit => k_is)
    (case a_steps_of => k_is)
    (case l_steps_of => k_is)
    (case c_steps_of_ => k_is)
    (case k_steps_of => k_is)
    (case a_need_place => k_is)
    (case l_need_place => k_is)
    (case c_need_place_ => k_is)
    (case k_need_place => k_is)
    (case a_states_behind => k_is)
    (case l_states_behind => k_is)
    (case c_states_behind_ => k_is)
    (case k_states_behind => k_is)
    (case a_tails_of => k_is)
    (case l_tails_of => k_is)
    (case c_tails_of_ => k_is)
    (case k_tails_of => k_is)
    (case a_settled_at => k_is)
    (case l_settled_at => k_is)
    (case c_settled_at_ => k_is)
    (case k_settled_at => k_is)
    (case a_tail_after => k_is)
    (case l_tail_after => k_is)
    (case c_tail_after_ => k_is)
    (case k_tail_after => k_is)
    (case a__law_barrel => k_is)
    (case l__law_barrel => k_is)
    (case c__law_barrel_ => k_is)
    (case k__law_barrel => k_is)
    (case a__law_draw => k_is)
    (case l__law_draw => k_is)
    (case c__law_draw_ => k_is)
    (case k__law_draw => k_is)
    (case a__law_some => k_is)
    (case l__law_some => k_is)
    (case c__law_some_ => k_is)
    (case k__law_some => k_is)
    (case a__law_read => k_is)
    (case l__law_read => k_is)
    (case c__law_read_ => k_is)
    (case k__law_read => k_is)
    (case a__law_bit => k_is)
    (case l__law_bit => k_is)
    (case c__law_bit_ => k_is)
    (case k__law_bit => k_is)
    (case a__law_parts => k_is)
    (case l__law_parts => k_is)
    (case c__law_parts_ => k_is)
    (case k__law_parts => k_is)
    (case a__law_joined => k_is)
    (case l__law_joined => k_is)
    (case c__law_joined_ => k_is)
    (case k__law_joined => k_is)
    (case a__law_tails => k_is)
    (case l__law_tails => k_is)
    (case c__law_tails_ => k_is)
    (case k__law_tails => k_is)
    (case a__law_places => k_is)
    (case l__law_places => k_is)
    (case c__law_places_ => k_is)
    (case k__law_places => k_is)
    (case a_law => k_is)
    (case l_law => k_is)
    (case c_law_ => k_is)
    (case k_law => k_is)
    (case z_isinstance => k_is)
    (case z_bool => k_is)
    (case z_int => k_is)
    (case z_str => k_is)
    (case z_all => k_is)
    (case z_tuple => k_is)
    (case z_len => k_is)
    (case z_enumerate => k_is)
    (case z_list => k_is)
    (case z_min => k_is)
    (case z_max => k_is)
    (case z_range => k_is)
    (case z_repr => k_is)
    (case a_TRIGGERS => k_is)
    (case l_TRIGGERS => k_is)
    (case s_TRIGGERS_ => rfl)
    (case e_TRIGGERS => repeat (first | exact .nil | refine .cons ⟨⟨_, rfl⟩, rfl, _, rfl, by first | exact ⟨_, rfl⟩ | rfl⟩ ?_))
    (case a_WRITTEN_BITS => k_is)
    (case l_WRITTEN_BITS => k_is)
    (case s_WRITTEN_BITS_ => rfl)
    (case e_WRITTEN_BITS => repeat (first | exact .nil | refine .cons ⟨⟨_, rfl⟩, rfl, _, rfl, by first | exact ⟨_, rfl⟩ | rfl⟩ ?_))
    (case a_InvalidSteps => k_is)
    (case k_InvalidSteps => k_is)
    (case x_InvalidSteps => k_exc)
    (case b_InvalidSteps => k_is)
    (case t_InvalidSteps_ => k_is)
    (case a_InvalidIndex => k_is)
    (case k_InvalidIndex => k_is)
    (case x_InvalidIndex => k_exc)
    (case b_InvalidIndex => k_is)
    (case t_InvalidIndex_ => k_is)
    (case a_InvalidPlace => k_is)
    (case k_InvalidPlace => k_is)
    (case x_InvalidPlace => k_exc)
    (case b_InvalidPlace => k_is)
    (case t_InvalidPlace_ => k_is)
#print axioms PySem.Challenge.cw_lowtricks_k16_tails_after_any_number_of_holds
