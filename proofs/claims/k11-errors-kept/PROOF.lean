import PyProof.Rows.All
import Wide.All
import OpenK.AllK
import Wide.FinOn
import HandS.Base
import HandS.Call
import HandS.List
import HandS.Comp
import HandS.Ends
import HandS.Dict
import HandS.Iter
import HandS.Text
import HandS.Words
import HandS.WordsList
import HandS.EndBits
import HandS.Evl
import HandS.IsInst
import HandS.TupAny
import HandS.Style
import HandS.Flow
import HandS.NoneIn
import HandS.ExcValue
import HandS.ExcIs
import HandS.ExcInit
import HandS.HeadHook1
import HandS.Wide
import HandS.HeadHook2
import HandS.HeadHook3
import HandS.Zip
import HandS.More
import PyProof.AutoSeq1
import HandS.HeadHook4
import KE.KExcSuper
import HandS.WordsExc
import HandS.ExcOwn
import HandS.ExcField
import KE.GoesMore
import HandS.MakeKwOnly
import PyProof.P3Eq
import PyProof.RowDictHeap
import PyProof.ReprBulk
import HandS.Head0
import HandS.Head1
import HandS.Head2
import HandS.HeadEnd
import HandS.HeadNt
import HandS.Defaults
import PyProof.Rows.EqBoolInt
import HandS.ForExc
import HandS.OwnEq
import HandS.StrMore
import HandS.RaiseMore
import KE.GoesZip
import KE.KDictZip
import KE.KItemsList
import PyProof.ListNew
import PyProof.CollectWalk
import HandS.ListItems
import KE.GoesEnum
import HandS.Set
import HandS.Strs
import HandS.TupSets
import PyProof.Rows.SortShellAny
import HandS.DictComp
import PyProof.DictUpdate
import HandS.WordsDict
import PyProof.TupleOfSeq
import PySem.Challenge.RW_askless_k11_errors_kept
set_option Elab.async false
set_option linter.all false
set_option maxRecDepth 100000
set_option maxHeartbeats 0
namespace Ask
open PySem PySem.Spec PyProof.Rows L2
/-! ## defs that run while no repr is under way -/
structure FnG (P : Program) (w : World) (K : PySem.W.Frag) (mg : Str → Option Value) (base : Heap) (k : Nat) (f : Addr) (fd : FuncData) (ps : List Str) (sp : Sp) : Prop where
  len : ∀ vs H Q E, sp vs H Q E → vs.length = ps.length
  run : ∀ (A : Around) (outer : List Env) (s : Shared) (H : Hp) (args : Args) (us : List Value) (vs : List V) (Q : VK) (E : XK), Room k A → A.guards = some [] →
    Env0 P w K mg base A outer s H → BindsTo s fd args (ps.zip us) → Vals vs us → sp vs H Q E → codeAny (model P w) A (.call (.ref f) args) (CR CX0 outer P w H s Q E) s
section
variable {P : Program} {w : World} {K : PySem.W.Frag} {mg : Str → Option Value} {base : Heap} {k : Nat} {f : Addr} {fd : FuncData} {ps : List Str} {sp : Sp}
/-- a def by its body, the body met where no repr is under way -/
theorem okG {x qual : Str} {st : Stmt} {N : List Str} (F : Fun K x qual st f fd) (S : FnScope N ps (defScope st)) (len : ∀ vs H Q E, sp vs H Q E → vs.length = ps.length)
    (hbody : ∀ (cdv : Value) (A : Around) (outer : List Env) (s : Shared) (H : Hp) (vs : List V) (Q : VK) (E : XK), Room k (A.deeper (envOfC qual (defScope st) s.heap.objs.size f cdv)) → A.guards = some [] → sp vs H Q E →
      ∃ t, PSs (cxOf CX0 P w K mg base N qual (defScope st) f cdv A outer s H E).nox (defBody st) t ∧ t { nx := fun _ H' => Q .non H', rt := Q } (start N vs) H) :
    FnG P w K mg base (k + 1) f fd ps sp := by
  obtain ⟨oc, od, kV, doc, pm, an, cdv, ct, osl, rfl, lk, hcd⟩ := F.ex
  refine ⟨len, fun A outer s H args us vs Q E hr gd e0 hb r hsp => ?_⟩
  have low : ∀ b o, base.get? b = some o → s.heap.get? b = some o := fun b o e => (e0.bs b o e).1
  refine Att.call_fn (e0.mod.kin.keeps low) (e0.mod.nolimit.keeps low) lk hcd hr.depth hb ?_ (fun s1 z => ?_) S.co S.gen S.kind
  · refine List.all_eq_true.mpr fun y hy => ?_
    rcases S.par y.1 (List.of_mem_zip hy).1 with q | q
    · rw [q]; rfl
    · rw [q]; rfl
  · obtain ⟨t, ht, hq⟩ := hbody cdv A outer s H vs Q E (hr.deeper _) gd hsp
    have I := inv_start (CX := CX0) (E := E) (N := N) S hr.hd e0 (len _ _ _ _ hsp) r z
    refine wpAny_mono (ht.nox.run [] s1 (start N vs) H _ I hq) (fun fl s' hs => ?_) (fun e s' hs => hs)
    cases fl with
    | ret u => obtain ⟨v, σ', H', J, rv, q⟩ := hs; exact ⟨v, H', J.os, J.bare, J.base, J.hok, rv, q⟩
    | next => obtain ⟨σ', H', J, q⟩ := hs; exact ⟨V.non, H', J.os, J.bare, J.base, J.hok, rfl, q⟩
    | brk => obtain ⟨_, _, _, q⟩ := hs; exact q.elim
    | cont => obtain ⟨_, _, _, q⟩ := hs; exact q.elim
end
section
variable {X : Cx} {k : Nat} {f : Addr} {fd : FuncData} {ps : List Str} {sp : Sp} {x : Str} {p pos : Pos} {e : Expr} {es : List Expr} {t : TA}
/-- f(e, ..) for such a def -/
def tCallG (sp : Sp) (t : TA) : TE := fun σ H Q => t σ H fun vs H1 => sp vs H1 Q E0
theorem pe_callG (F : FnG X.prog X.w X.K X.mg X.base k f fd ps sp) (hr : Room k X.A) (gd : X.A.guards = some []) (hg : Gl X x) (hm : X.mg x = some (.ref f)) (hk : PySem.W.keepIn X.K (.ref f) = true) (hb : Binds X.K fd ps [])
    (ha : PA X (e :: es) t) (hdb : (x == ("__debug__" : Str)) = false := by decide) (he : starEach (e :: es) X.env = (false, eval e X.env) :: starEach es X.env := by rfl) (hpl : (backTo pos (starEach es X.env)).any (·.1) = false := by rfl) :
    PE X (.Call (.Name x p) (e :: es) [] pos) (tCallG sp t) := by
  refine ⟨fun pins s σ H Q I h => wpAny_Call_Name_kw (ld_glob I hg hm ?_ hdb)⟩
  refine PySem.W.callWith_K (h₀ := X.base) I.ok.mod.kin hk (thn (ha.run pos pins s σ H _ I h) fun us s1 ⟨vs, H1, I1, r, q⟩ => ⟨I1.kIn, ?_⟩) he hpl
  have hl : (us ++ []).length = ps.length := by rw [List.append_nil, ← r.length]; exact F.len _ _ _ _ q
  have bt : BindsTo s1 fd ⟨us, []⟩ (ps.zip us) := by have b0 := hb s1 us I1.kIn hl; rw [List.append_nil] at b0; exact b0
  refine wpAny_call (codeAny_mono (F.run X.A X.stack s1 H1 ⟨us, []⟩ us vs Q E0 hr gd I1.env0 bt r q) fun o s' hq => ?_)
  cases o with
  | error e => exact False.elim hq
  | ok fl =>
    cases fl with
    | ret u => exact I1.after hq
    | next => exact False.elim hq
    | brk => exact False.elim hq
    | cont => exact False.elim hq
end
/-! ## repr of data -/
section
variable {X : Cx}
theorem kept_inv {pins : List (Addr × Obj)} {σ : L2.St} {H : Hp} {s : Shared} {h' : Heap} {tk : Nat} (I : Inv X pins σ H s) (hk : ∀ b o, s.heap.get? b = some o → h'.get? b = some o) : Inv X pins σ H { s with heap := h', toks := tk } :=
  I.un (Un.kept hk) (I.hok.kept hk)
end
/-! ## the law's own call, from FnG -/
/-- what the law's call must come to -/
def Told (s₁ : Shared) (r : Result) (s' : Shared) : Prop := r = .ok (.ret (.bool true)) ∧ OldK s₁.heap s'.heap ∧ s'.os = s₁.os ∧ AllBare s'.gens
section
variable {P : Program} {w : World} {K : PySem.W.Frag} {mg mb : Str → Option Value} {k : Nat} {fa a : Addr} {fd : FuncData} {x : Str} {sp : Sp} {s₁ : Shared} {vs : List Value} {ns : List Int}
end
end Ask
/-! Data: what a value stands for. own j: the j-th list that is kept apart (it alone may change). -/
namespace Ask
open PySem PySem.Spec PyProof.Rows L2
inductive D where
  | non | bl (b : Bool) | int (i : Int) | str (x : Str) | lst (xs : List D) | tup (xs : List D) | dct (ks : List Key) (ds : List D) | own (j : Nat) | ref (a : Addr) | ty (n : String) | exn (C : Addr) | scr (ns : List Int) | ins (C : String) (ks : List Str) (ds : List D) | exc (a : Addr) (d : Option Addr) (ks : List Str) (ds : List D) | exv (C : String) (ks : List Str) (ds : List D)
mutual
inductive Rp (K : PySem.W.Frag) (W : List Addr) (h : Hp) : V → D → Prop
  | non : Rp K W h .non .non
  | bl (b : Bool) : Rp K W h (.bl b) (.bl b)
  | int (i : Int) : Rp K W h (.int i) (.int i)
  | str (x : Str) : Rp K W h (.str x) (.str x)
  | lst {a : Addr} {xs : List V} {ds : List D} : h a = some (.lst xs) → RpAll K W h xs ds → Rp K W h (.ref a) (.lst ds)
  | tup {a : Addr} {xs : List V} {ds : List D} : SqT K h a xs → RpAll K W h xs ds → Rp K W h (.ref a) (.tup ds)
  | dct {a : Addr} {kvs : List (Key × V)} {ds : List D} : h a = some (.dK kvs) → RpAll K W h (kvs.map (·.2)) ds → Rp K W h (.ref a) (.dct (kvs.map (·.1)) ds)
  | own {a : Addr} {j : Nat} : W[j]? = some a → Rp K W h (.ref a) (.own j)
  | ref (a : Addr) : Rp K W h (.ref a) (.ref a)
  | ty (n : String) : Rp K W h (.ty n) (.ty n)
  | exn {a C : Addr} : h a = some (ExO (.ref C) a) → Rp K W h (.ref a) (.exn C)
  | scr {a : Addr} {ns : List Int} : SqL K h a (ns.map V.int) → Rp K W h (.ref a) (.scr ns)
  | ins {a dx : Addr} {C : String} {kvs : List (Str × V)} {ds : List D} : h a = some (.ins (He.ga K C) dx kvs) → h dx = some (.own a) → RpAll K W h (kvs.map (·.2)) ds → Rp K W h (.ref a) (.ins C (kvs.map (·.1)) ds)
  | exc {a d : Addr} {kvs : List (Str × V)} {ds : List D} : h d = some (.xd kvs) → RpAll K W h (kvs.map (·.2)) ds → Rp K W h (.ref a) (.exc a (some d) (kvs.map (·.1)) ds)
  | exc0 {a : Addr} : Rp K W h (.ref a) (.exc a none [] [])
  | exv {a dx : Addr} {C : String} {kvs : List (Str × V)} {ds : List D} : h a = some (exo a (He.ga K C) (some dx)) → h dx = some (exd dx kvs) → RpAll K W h (kvs.map (·.2)) ds → Rp K W h (.ref a) (.exv C (kvs.map (·.1)) ds)
  | exv0 {a : Addr} {C : String} : h a = some (exo a (He.ga K C) none) → Rp K W h (.ref a) (.exv C [] [])
inductive RpAll (K : PySem.W.Frag) (W : List Addr) (h : Hp) : List V → List D → Prop
  | nil : RpAll K W h [] []
  | cons {v : V} {vs : List V} {d : D} {ds : List D} : Rp K W h v d → RpAll K W h vs ds → RpAll K W h (v :: vs) (d :: ds)
end
mutual
theorem Rp.mono {K : PySem.W.Frag} {W W' : List Addr} {h h' : Hp} (hW : ∀ (j : Nat) (a : Addr), W[j]? = some a → W'[j]? = some a) (hh : ∀ a o, h a = some o → h' a = some o) : ∀ (d : D) (v : V), Rp K W h v d → Rp K W' h' v d
  | .non, _, .non => .non
  | .bl _, _, .bl b => .bl b
  | .int _, _, .int b => .int b
  | .str _, _, .str b => .str b
  | .lst ds, _, .lst h1 h2 => .lst (hh _ _ h1) (RpAll.mono hW hh ds _ h2)
  | .tup ds, _, .tup h1 h2 => .tup (Evl.ex_t hh h1) (RpAll.mono hW hh ds _ h2)
  | .dct _ ds, _, .dct h1 h2 => .dct (hh _ _ h1) (RpAll.mono hW hh ds _ h2)
  | .own _, _, .own h1 => .own (hW _ _ h1)
  | .ref _, _, .ref a => .ref a
  | .ty _, _, .ty a => .ty a
  | .exn _, _, .exn h1 => .exn (hh _ _ h1)
  | .scr _, _, .scr h1 => .scr (Evl.ex_l hh h1)
  | .ins _ _ ds, _, .ins h1 h2 h3 => .ins (hh _ _ h1) (hh _ _ h2) (RpAll.mono hW hh ds _ h3)
  | .exc _ _ _ ds, _, .exc h1 h3 => .exc (hh _ _ h1) (RpAll.mono hW hh ds _ h3)
  | .exv _ _ ds, _, .exv h1 h2 h3 => .exv (hh _ _ h1) (hh _ _ h2) (RpAll.mono hW hh ds _ h3)
  | .exv _ _ _, _, .exv0 h1 => .exv0 (hh _ _ h1)
  | .exc _ _ _ _, _, .exc0 => .exc0
theorem RpAll.mono {K : PySem.W.Frag} {W W' : List Addr} {h h' : Hp} (hW : ∀ (j : Nat) (a : Addr), W[j]? = some a → W'[j]? = some a) (hh : ∀ a o, h a = some o → h' a = some o) : ∀ (ds : List D) (vs : List V), RpAll K W h vs ds → RpAll K W' h' vs ds
  | [], _, .nil => .nil
  | d :: ds, _, .cons h1 h2 => .cons (Rp.mono hW hh d _ h1) (RpAll.mono hW hh ds _ h2)
end
section
variable {K : PySem.W.Frag} {W : List Addr} {h : Hp}
theorem RpAll.length : ∀ {vs : List V} {ds : List D}, RpAll K W h vs ds → vs.length = ds.length
  | _, _, .nil => rfl
  | _, _, .cons _ t => congrArg (· + 1) t.length
theorem RpAll.get : ∀ {vs : List V} {ds : List D} {i : Nat} {d : D}, RpAll K W h vs ds → ds[i]? = some d → ∃ v, vs[i]? = some v ∧ Rp K W h v d
  | _, _, 0, _, .cons r _, e => by
    simp at e; subst e; exact ⟨_, rfl, r⟩
  | _, _, i + 1, d, .cons _ t, e => by
    obtain ⟨v, h1, h2⟩ := RpAll.get (i := i) (d := d) t (by simpa using e)
    exact ⟨v, by simpa using h1, h2⟩
theorem RpAll.append : ∀ {vs us : List V} {ds es : List D}, RpAll K W h vs ds → RpAll K W h us es → RpAll K W h (vs ++ us) (ds ++ es)
  | _, _, _, _, .nil, s => s
  | _, _, _, _, .cons r t, s => .cons r (t.append s)
theorem RpAll.take : ∀ {vs : List V} {ds : List D} (n : Nat), RpAll K W h vs ds → RpAll K W h (vs.take n) (ds.take n)
  | _, _, 0, _ => by simp; exact .nil
  | _, _, _ + 1, .nil => .nil
  | _, _, n + 1, .cons r t => .cons r (t.take n)
theorem RpAll.drop : ∀ {vs : List V} {ds : List D} (n : Nat), RpAll K W h vs ds → RpAll K W h (vs.drop n) (ds.drop n)
  | _, _, 0, r => r
  | _, _, _ + 1, .nil => .nil
  | _, _, n + 1, .cons _ t => t.drop n
theorem RpAll.set : ∀ {vs : List V} {ds : List D} {v : V} {d : D} (i : Nat), RpAll K W h vs ds → Rp K W h v d → RpAll K W h (vs.set i v) (ds.set i d)
  | _, _, _, _, _, .nil, _ => .nil
  | _, _, _, _, 0, .cons _ t, r => .cons r t
  | _, _, _, _, i + 1, .cons q t, r => .cons q (t.set i r)
theorem RpAll.reverse : ∀ {vs : List V} {ds : List D}, RpAll K W h vs ds → RpAll K W h vs.reverse ds.reverse
  | _, _, .nil => .nil
  | _, _, .cons r t => by
    rw [List.reverse_cons, List.reverse_cons]
    exact t.reverse.append (.cons r .nil)
end
/-! ## what is kept apart -/
abbrev State := List (List D)
abbrev Store := List (Option D)
def hd (A : List Addr) (H : Hp) : Hp := fun a => if a ∈ A then none else H a
theorem hd_some {A : List Addr} {H : Hp} {a : Addr} {o : HO} : hd A H a = some o ↔ a ∉ A ∧ H a = some o := by
  unfold hd
  split <;> simp_all
/-! ### what an own thing is: a list, a dict, an instance; told by a mark ahead of what it holds -/
inductive Kd where
  | lst | dct (ks : List Key) | ins (C : String) (ks : List Str)
def tagK : D → Option Kd
  | .exc _ none (_ :: _) [.dct ks _] => some (.dct ks)
  | .exc _ none (_ :: _) [.ins C ks _] => some (.ins C ks)
  | _ => none
abbrev dtag (ks : List Key) : D := .exc 0 none [⟨#[]⟩] [.dct ks []]
def kindL : List D → Kd
  | d :: _ => (tagK d).getD .lst
  | [] => .lst
def bodyL (ds : List D) : List D := match kindL ds with
  | .lst => ds
  | _ => ds.tail
/-- it is a list -/
def nt (ds : List D) : Bool := match kindL ds with
  | .lst => true
  | _ => false
theorem nt_kind {ds : List D} (h : nt ds = true) : kindL ds = .lst ∧ bodyL ds = ds := by
  unfold nt at h
  unfold bodyL
  cases e : kindL ds with
  | lst => exact ⟨rfl, rfl⟩
  | dct ks => rw [e] at h; cases h
  | ins C ks => rw [e] at h; cases h
theorem rp_nt {K : PySem.W.Frag} {W : List Addr} {h : Hp} : ∀ {d : D} {v : V}, Rp K W h v d → tagK d = none
  | _, _, .non => rfl
  | _, _, .bl _ => rfl
  | _, _, .int _ => rfl
  | _, _, .str _ => rfl
  | _, _, .lst _ _ => rfl
  | _, _, .tup _ _ => rfl
  | _, _, .dct _ _ => rfl
  | _, _, .own _ => rfl
  | _, _, .ref _ => rfl
  | _, _, .ty _ => rfl
  | _, _, .exn _ => rfl
  | _, _, .scr _ => rfl
  | _, _, .ins _ _ _ => rfl
  | _, _, .exc _ _ => rfl
  | _, _, .exc0 => rfl
  | _, _, .exv _ _ _ => rfl
  | _, _, .exv0 _ => rfl
theorem rps_nt {K : PySem.W.Frag} {W : List Addr} {h : Hp} {vs : List V} {ds : List D} (r : RpAll K W h vs ds) : nt ds = true := by
  cases r with
  | nil => rfl
  | @cons v vs d ds r _ =>
    have e : kindL (d :: ds) = .lst := by
      show (tagK d).getD .lst = .lst
      rw [rp_nt r]
      rfl
    unfold nt
    rw [e]
def Holds (K : PySem.W.Frag) (h H : Hp) (a : Addr) : Kd → List V → Prop
  | .lst, xs => H a = some (.lst xs)
  | .dct ks, xs => ∃ kvs, H a = some (.dK kvs) ∧ kvs.map (·.1) = ks ∧ kvs.map (·.2) = xs
  | .ins C ks, xs => ∃ dx kvs, H a = some (.ins (He.ga K C) dx kvs) ∧ h dx = some (.own a) ∧ kvs.map (·.1) = ks ∧ kvs.map (·.2) = xs
def OwnRp (K : PySem.W.Frag) (W : List Addr) (h H : Hp) (a : Addr) (ds : List D) : Prop := ∃ xs, Holds K h H a (kindL ds) xs ∧ RpAll K W h xs (bodyL ds)
section
variable {K : PySem.W.Frag} {W W' : List Addr} {h h' H H' : Hp} {a : Addr} {ds : List D}
theorem OwnRp.lst {xs : List V} (e : H a = some (.lst xs)) (r : RpAll K W h xs ds) : OwnRp K W h H a ds := by
  obtain ⟨k1, k2⟩ := nt_kind (rps_nt r)
  exact ⟨xs, by rw [k1]; exact e, by rw [k2]; exact r⟩
theorem OwnRp.get (o : OwnRp K W h H a ds) (hn : nt ds = true) : ∃ xs, H a = some (.lst xs) ∧ RpAll K W h xs ds := by
  obtain ⟨xs, e, r⟩ := o
  obtain ⟨k1, k2⟩ := nt_kind hn
  rw [k1] at e
  rw [k2] at r
  exact ⟨xs, e, r⟩
theorem OwnRp.move (o : OwnRp K W h H a ds) (ha : H' a = H a) (pre : ∀ (j : Nat) (b : Addr), W[j]? = some b → W'[j]? = some b) (hh : ∀ b o, h b = some o → h' b = some o) : OwnRp K W' h' H' a ds := by
  obtain ⟨xs, e, r⟩ := o
  refine ⟨xs, ?_, RpAll.mono pre hh _ _ r⟩
  revert e
  cases kindL ds with
  | lst => exact fun e => ha.trans e
  | dct ks => exact fun ⟨kvs, e1, e2⟩ => ⟨kvs, ha.trans e1, e2⟩
  | ins C ks => exact fun ⟨dx, kvs, e1, e2, e3⟩ => ⟨dx, kvs, ha.trans e1, hh _ _ e2, e3⟩
/-- seen as data that stays -/
def viewL (ds : List D) : D := match kindL ds with
  | .lst => .lst ds
  | .dct ks => .dct ks ds.tail
  | .ins C ks => .ins C ks ds.tail
theorem viewL_nt {ds : List D} (hn : nt ds = true) : viewL ds = .lst ds := by
  unfold viewL
  rw [(nt_kind hn).1]
theorem holds_view {xs : List V} (e : Holds K h H a (kindL ds) xs) (r : RpAll K W' h' xs (bodyL ds)) (ha : h' a = H a) (hh : ∀ b o, h b = some o → h' b = some o) : Rp K W' h' (.ref a) (viewL ds) := by
  unfold viewL
  unfold bodyL at r
  revert e r
  cases kindL ds with
  | lst => exact fun e r => .lst (ha.trans e) r
  | dct ks =>
    intro e r
    obtain ⟨kvs, e1, e2, e3⟩ := e
    subst e2 e3
    exact .dct (ha.trans e1) r
  | ins C ks =>
    intro e r
    obtain ⟨dx, kvs, e1, e2, e3, e4⟩ := e
    subst e3 e4
    exact .ins (ha.trans e1) (hh _ _ e2) r
/-- there is something, and it is not the place of an instance's fields -/
theorem OwnRp.what (o : OwnRp K W h H a ds) : ∃ u, H a = some u ∧ ∀ x, u ≠ .own x := by
  obtain ⟨xs, e, _⟩ := o
  revert e
  cases kindL ds with
  | lst => exact fun e => ⟨_, e, fun _ z => nomatch z⟩
  | dct ks => exact fun ⟨kvs, e1, e2⟩ => ⟨_, e1, fun _ z => nomatch z⟩
  | ins C ks => exact fun ⟨dx, kvs, e1, e2, e3⟩ => ⟨_, e1, fun _ z => nomatch z⟩
end
structure Good (K : PySem.W.Frag) (hid W : List Addr) (st : State) (H : Hp) : Prop where
  nd : W.Nodup
  dis : ∀ a ∈ W, a ∉ hid
  len : W.length = st.length
  dom : ∀ a ∈ hid, H a ≠ none
  own : ∀ (j : Nat) (a : Addr) (ds : List D), W[j]? = some a → st[j]? = some ds → OwnRp K W (hd (hid ++ W) H) H a ds
/-- of which kind an object is: own things stay what they are -/
inductive HK where
  | lst | dK | ins (C dx : Addr) | oth
def hk : HO → HK
  | .lst _ => .lst
  | .dK _ => .dK
  | .ins C dx _ => .ins C dx
  | _ => .oth
structure Gr (W : List Addr) (H : Hp) (W' : List Addr) (H' : Hp) : Prop where
  pre : ∀ (j : Nat) (a : Addr), W[j]? = some a → W'[j]? = some a
  new : ∀ a ∈ W', a ∈ W ∨ H a = none
  keep : ∀ a o, a ∉ W → H a = some o → H' a = some o
  kin : ∀ a o, a ∈ W → H a = some o → ∃ o', H' a = some o' ∧ hk o' = hk o
section
variable {K : PySem.W.Frag} {hid W W' W'' : List Addr} {st st' : State} {H H' H'' : Hp}
theorem Gr.refl : Gr W H W H := ⟨fun _ _ e => e, fun _ h => .inl h, fun _ _ _ e => e, fun _ o _ e => ⟨o, e, rfl⟩⟩
theorem Gr.trans (x : Gr W H W' H') (y : Gr W' H' W'' H'') : Gr W H W'' H'' := by
  have off : ∀ a o, a ∉ W → H a = some o → a ∉ W' := fun a o h1 h2 h3 => by
    rcases x.new a h3 with q | q
    · exact h1 q
    · rw [q] at h2; cases h2
  have sub : ∀ a, a ∈ W → a ∈ W' := fun a ha => by
    obtain ⟨j, hj⟩ := List.mem_iff_getElem?.mp ha
    exact List.mem_of_getElem? (x.pre j a hj)
  refine ⟨fun j a e => y.pre j a (x.pre j a e), fun a ha => ?_, fun a o h1 h2 => y.keep a o (off a o h1 h2) (x.keep a o h1 h2), fun a o h1 h2 => ?_⟩
  rotate_left
  · obtain ⟨o1, e1, k1⟩ := x.kin a o h1 h2
    obtain ⟨o2, e2, k2⟩ := y.kin a o1 (sub a h1) e1
    exact ⟨o2, e2, k2.trans k1⟩
  rcases y.new a ha with q | q
  · exact x.new a q
  · by_cases hw : a ∈ W
    · exact .inl hw
    · cases e : H a with
      | none => exact .inr rfl
      | some o => rw [x.keep a o hw e] at q; cases q
theorem Gr.hd (x : Gr W H W' H') : ∀ a o, Ask.hd (hid ++ W) H a = some o → Ask.hd (hid ++ W') H' a = some o := by
  intro a o e
  rw [hd_some] at e ⊢
  obtain ⟨h1, h2⟩ := e
  rw [List.mem_append, not_or] at h1 ⊢
  refine ⟨⟨h1.1, fun h3 => ?_⟩, x.keep a o h1.2 h2⟩
  rcases x.new a h3 with q | q
  · exact h1.2 q
  · rw [q] at h2; cases h2
theorem Gr.rp (x : Gr W H W' H') {d : D} {v : V} (r : Rp K W (Ask.hd (hid ++ W) H) v d) : Rp K W' (Ask.hd (hid ++ W') H') v d := Rp.mono x.pre x.hd d v r
theorem Gr.rps (x : Gr W H W' H') {ds : List D} {vs : List V} (r : RpAll K W (Ask.hd (hid ++ W) H) vs ds) : RpAll K W' (Ask.hd (hid ++ W') H') vs ds := RpAll.mono x.pre x.hd ds vs r
/-- the j-th own thing, a list -/
def lat (st : State) (j : Nat) : Option (List D) := match st[j]? with
  | some ds => if nt ds = true then some ds else none
  | none => none
theorem lat_iff {st : State} {j : Nat} {ds : List D} : lat st j = some ds ↔ st[j]? = some ds ∧ nt ds = true := by
  unfold lat
  cases st[j]? with
  | none =>
    constructor
    · intro h; cases h
    · intro h; cases h.1
  | some es =>
    show (if nt es = true then some es else none) = some ds ↔ _
    by_cases h : nt es = true
    · rw [if_pos h]
      constructor
      · intro e; cases e; exact ⟨rfl, h⟩
      · intro e; exact e.1
    · rw [if_neg h]
      constructor
      · intro e; cases e
      · intro e; cases e.1; exact absurd e.2 h
theorem Good.lat (g : Good K hid W st H) {j : Nat} {a : Addr} {ds : List D} (h1 : W[j]? = some a) (h2 : Ask.lat st j = some ds) : ∃ xs, H a = some (.lst xs) ∧ RpAll K W (Ask.hd (hid ++ W) H) xs ds :=
  (g.own j a ds h1 (lat_iff.mp h2).1).get (lat_iff.mp h2).2
theorem Good.at (g : Good K hid W st H) {a : Addr} (h : a ∈ W) : ∃ u, H a = some u ∧ ∀ x, u ≠ .own x := by
  obtain ⟨j, hj⟩ := List.mem_iff_getElem?.mp h
  have hl : j < st.length := by
    have := (List.getElem?_eq_some_iff.mp hj).1
    rw [← g.len]; exact this
  exact (g.own j a st[j] hj (List.getElem?_eq_getElem hl)).what
/-- a new object is on no list -/
theorem Good.off (g : Good K hid W st H) {p : Addr} (hp : H p = none) : p ∉ hid ++ W := by
  rw [List.mem_append, not_or]
  refine ⟨fun h => g.dom p h hp, fun h => ?_⟩
  obtain ⟨xs, e, _⟩ := g.at h
  rw [hp] at e; cases e
theorem Gr.new1 {p : Addr} {o : HO} (hp : H p = none) : Gr W H W (upd H p o) :=
  ⟨fun _ _ e => e, fun _ h => .inl h, fun a u _ e => by rw [upd_ne (ne_of_none e hp)]; exact e, fun a u _ e => ⟨u, by rw [upd_ne (ne_of_none e hp)]; exact e, rfl⟩⟩
/-- the same lists are kept apart, the heap has grown -/
theorem Good.grow (g : Good K hid W st H) (x : Gr W H W H') (hw : ∀ a ∈ W, H' a = H a) : Good K hid W st H' := by
  refine ⟨g.nd, g.dis, g.len, fun a ha e => ?_, fun j a ds h1 h2 => ?_⟩
  · by_cases hw' : a ∈ W
    · rw [hw a hw'] at e; exact g.dom a ha e
    · cases e2 : H a with
      | none => exact g.dom a ha e2
      | some o => rw [x.keep a o hw' e2] at e; cases e
  · exact (g.own j a ds h1 h2).move (hw a (List.mem_of_getElem? h1)) (fun _ _ z => z) x.hd
theorem Good.new1 (g : Good K hid W st H) {p : Addr} {o : HO} (hp : H p = none) : Good K hid W st (upd H p o) :=
  g.grow (Gr.new1 hp) fun a ha => upd_ne fun e => by
    subst e
    obtain ⟨xs, e, _⟩ := g.at ha
    rw [hp] at e; cases e
theorem Good.hd1 (g : Good K hid W st H) {p : Addr} {o : HO} (hp : H p = none) : Ask.hd (hid ++ W) (upd H p o) p = some o :=
  hd_some.mpr ⟨g.off hp, upd_same⟩
end
/-! ## stores -/
def Rs (K : PySem.W.Frag) (W : List Addr) (h : Hp) (ρ : Store) (σ : L2.St) : Prop := ρ.length = σ.length ∧ ∀ (i : Nat) (d : D), ρ[i]? = some (some d) → ∃ v, σ[i]? = some (some v) ∧ Rp K W h v d
section
variable {K : PySem.W.Frag} {hid W W' : List Addr} {st : State} {H H' h : Hp} {ρ : Store} {σ : L2.St}
theorem Gr.rs (x : Gr W H W' H') (r : Rs K W (Ask.hd (hid ++ W) H) ρ σ) : Rs K W' (Ask.hd (hid ++ W') H') ρ σ :=
  ⟨r.1, fun i d e => let ⟨v, h1, h2⟩ := r.2 i d e; ⟨v, h1, x.rp h2⟩⟩
theorem Rs.set (r : Rs K W h ρ σ) {d : D} {v : V} (q : Rp K W h v d) (i : Nat) : Rs K W h (ρ.set i (some d)) (σ.set i (some v)) := by
  refine ⟨by rw [List.length_set, List.length_set]; exact r.1, fun j e hj => ?_⟩
  by_cases hij : i = j
  · subst hij
    have hl : i < ρ.length := by
      have := (List.getElem?_eq_some_iff.mp hj).1
      rw [List.length_set] at this; exact this
    rw [List.getElem?_set_self hl] at hj
    cases hj
    exact ⟨v, List.getElem?_set_self (by rw [← r.1]; exact hl), q⟩
  · rw [List.getElem?_set_ne hij] at hj
    obtain ⟨u, h1, h2⟩ := r.2 j e hj
    exact ⟨u, by rw [List.getElem?_set_ne hij]; exact h1, h2⟩
theorem Rs.wipe (r : Rs K W h ρ σ) (i : Nat) : Rs K W h (ρ.set i none) (σ.set i none) := by
  refine ⟨by rw [List.length_set, List.length_set]; exact r.1, fun j e hj => ?_⟩
  by_cases hij : i = j
  · subst hij
    have hl : i < ρ.length := by
      have := (List.getElem?_eq_some_iff.mp hj).1
      rw [List.length_set] at this; exact this
    rw [List.getElem?_set_self hl] at hj
    cases hj
  · rw [List.getElem?_set_ne hij] at hj
    obtain ⟨u, h1, h2⟩ := r.2 j e hj
    exact ⟨u, by rw [List.getElem?_set_ne hij]; exact h1, h2⟩
end
abbrev ME := Store → State → Option (D × State)
abbrev MA := Store → State → Option (List D × State)
abbrev MT := Store → State → Option (Bool × State)
inductive Out where
  | next (ρ : Store) | ret (d : D) | brk (ρ : Store) | cont (ρ : Store)
abbrev MS := Nat → Store → State → Option (Out × State)
section
variable (K : PySem.W.Frag)
def EvE (te : TE) (m : ME) : Prop := ∀ (hid W : List Addr) (st : State) (H : Hp) (ρ : Store) (σ : L2.St) (d : D) (st' : State), Good K hid W st H → Rs K W (hd (hid ++ W) H) ρ σ → m ρ st = some (d, st') →
  ∀ Q : VK, (∀ W' v H', Gr W H W' H' → Good K hid W' st' H' → Rp K W' (hd (hid ++ W') H') v d → Q v H') → te σ H Q
def EvA (ta : TA) (m : MA) : Prop := ∀ (hid W : List Addr) (st : State) (H : Hp) (ρ : Store) (σ : L2.St) (ds : List D) (st' : State), Good K hid W st H → Rs K W (hd (hid ++ W) H) ρ σ → m ρ st = some (ds, st') →
  ∀ Q : List V → Hp → Prop, (∀ W' vs H', Gr W H W' H' → Good K hid W' st' H' → RpAll K W' (hd (hid ++ W') H') vs ds → Q vs H') → ta σ H Q
def EvT (tt : TT) (m : MT) : Prop := ∀ (hid W : List Addr) (st : State) (H : Hp) (ρ : Store) (σ : L2.St) (b : Bool) (st' : State), Good K hid W st H → Rs K W (hd (hid ++ W) H) ρ σ → m ρ st = some (b, st') →
  ∀ Q : Bool → Hp → Prop, (∀ W' H', Gr W H W' H' → Good K hid W' st' H' → Q b H') → tt σ H Q
def OutOk (hid W0 : List Addr) (H0 : Hp) (E : Ends) (o : Out) (st' : State) : Prop := match o with
  | .next ρ' => ∀ W' σ' H', Gr W0 H0 W' H' → Good K hid W' st' H' → Rs K W' (hd (hid ++ W') H') ρ' σ' → E.nx σ' H'
  | .ret d => ∀ W' v H', Gr W0 H0 W' H' → Good K hid W' st' H' → Rp K W' (hd (hid ++ W') H') v d → E.rt v H'
  | .brk ρ' => ∀ W' σ' H', Gr W0 H0 W' H' → Good K hid W' st' H' → Rs K W' (hd (hid ++ W') H') ρ' σ' → E.bk σ' H'
  | .cont ρ' => ∀ W' σ' H', Gr W0 H0 W' H' → Good K hid W' st' H' → Rs K W' (hd (hid ++ W') H') ρ' σ' → E.ct σ' H'
def EvS (ts : TS) (m : MS) : Prop := ∀ (hid W0 : List Addr) (H0 : Hp) (W : List Addr) (st : State) (H : Hp) (ρ : Store) (σ : L2.St) (o : Out) (st' : State), Gr W0 H0 W H → Good K hid W st H → Rs K W (hd (hid ++ W) H) ρ σ →
  m W0.length ρ st = some (o, st') → ∀ E : Ends, OutOk K hid W0 H0 E o st' → ts E σ H
end
structure ED (X : Cx) (e : Expr) (m : ME) : Prop where
  ex : ∃ te, PE X e te ∧ EvE X.K te m
structure AD (X : Cx) (es : List Expr) (m : MA) : Prop where
  ex : ∃ ta, PA X es ta ∧ EvA X.K ta m
structure TD (X : Cx) (e : Expr) (m : MT) : Prop where
  ex : ∃ tt, PT X e tt ∧ EvT X.K tt m
structure WD (X : Cx) (e : Expr) (m : MT) : Prop where
  ex : ∃ tt, PW X e tt ∧ EvT X.K tt m
structure SD (X : Cx) (s : Stmt) (m : MS) : Prop where
  ex : ∃ ts, PS X s ts ∧ EvS X.K ts m
structure SsD (X : Cx) (s : List Stmt) (m : MS) : Prop where
  ex : ∃ ts, PSs X s ts ∧ EvS X.K ts m
/-! ## how mirrors are put together -/
def mC (d : D) : ME := fun _ st => some (d, st)
def mVar (i : Nat) : ME := fun ρ st => match ρ[i]? with
  | some (some d) => some (d, st)
  | _ => none
def m1 (f : State → D → Option D) (a : ME) : ME := fun ρ st => (a ρ st).bind fun p => (f p.2 p.1).map fun z => (z, p.2)
def m2 (f : State → D → D → Option D) (a b : ME) : ME := fun ρ st => (a ρ st).bind fun p => (b ρ p.2).bind fun q => (f q.2 p.1 q.1).map fun z => (z, q.2)
def mN (f : State → List D → Option D) (a : MA) : ME := fun ρ st => (a ρ st).bind fun p => (f p.2 p.1).map fun z => (z, p.2)
def aNil : MA := fun _ st => some ([], st)
def aCons (a : ME) (r : MA) : MA := fun ρ st => (a ρ st).bind fun p => (r ρ p.2).map fun q => (p.1 :: q.1, q.2)
def mAnd (a b : ME) : ME := fun ρ st => (a ρ st).bind fun p => match p.1 with
  | .bl true => b ρ p.2
  | .bl false => some (.bl false, p.2)
  | _ => none
def tOf (m : ME) : MT := fun ρ st => (m ρ st).bind fun p => match p.1 with
  | .bl b => some (b, p.2)
  | _ => none
def tNotM (t : MT) : MT := fun ρ st => (t ρ st).map fun p => (!p.1, p.2)
def tOrM (t u : MT) : MT := fun ρ st => (t ρ st).bind fun p => if p.1 = true then some (true, p.2) else u ρ p.2
/-! ## operations by values -/
section
variable (K : PySem.W.Frag)
def R1O (r : V → Hp → VK → Prop) (f : State → D → Option D) : Prop := ∀ (hid W : List Addr) (st : State) (H : Hp) (x : V) (a d : D), Good K hid W st H → Rp K W (hd (hid ++ W) H) x a → f st a = some d →
  ∀ Q : VK, (∀ v H', Gr W H W H' → Good K hid W st H' → Rp K W (hd (hid ++ W) H') v d → Q v H') → r x H Q
def R2O (r : R2) (f : State → D → D → Option D) : Prop := ∀ (hid W : List Addr) (st : State) (H : Hp) (x y : V) (a b d : D), Good K hid W st H → Rp K W (hd (hid ++ W) H) x a → Rp K W (hd (hid ++ W) H) y b → f st a b = some d →
  ∀ Q : VK, (∀ v H', Gr W H W H' → Good K hid W st H' → Rp K W (hd (hid ++ W) H') v d → Q v H') → r x y H Q
def RNO (r : List V → Hp → VK → Prop) (f : State → List D → Option D) : Prop := ∀ (hid W : List Addr) (st : State) (H : Hp) (xs : List V) (as : List D) (d : D), Good K hid W st H → RpAll K W (hd (hid ++ W) H) xs as → f st as = some d →
  ∀ Q : VK, (∀ v H', Gr W H W H' → Good K hid W st H' → Rp K W (hd (hid ++ W) H') v d → Q v H') → r xs H Q
end
section
variable {K : PySem.W.Frag} {ta tb tc te : TE} {tA : TA} {t u : TT} {ma mb mc : ME} {mA : MA} {mt mu : MT} {r r' : R2} {f f' : State → D → D → Option D}
theorem ev_c {v : V} {d : D} (h : ∀ W hh, Rp K W hh v d) : EvE K (tC v) (mC d) := by
  intro hid W st H ρ σ d' st' g rs e Q q
  cases e
  exact q W v H Gr.refl g (h _ _)
theorem ev_var (i : Nat) : EvE K (tVar i) (mVar i) := by
  intro hid W st H ρ σ d st' g rs e Q q
  unfold mVar at e
  split at e
  · rename_i d0 hd0
    cases e
    obtain ⟨v, h1, h2⟩ := rs.2 i _ hd0
    exact ⟨v, h1, q W v H Gr.refl g h2⟩
  · cases e
theorem ev_1 {rr : V → Hp → VK → Prop} {f1 : State → D → Option D} (hf : R1O K rr f1) (ha : EvE K ta ma) : EvE K (fun σ H Q => ta σ H fun x H1 => rr x H1 Q) (m1 f1 ma) := by
  intro hid W st H ρ σ d st' g rs e Q q
  obtain ⟨⟨x, s1⟩, e1, e⟩ := Option.bind_eq_some_iff.mp e
  obtain ⟨z, e3, e4⟩ := Option.map_eq_some_iff.mp e
  cases e4
  refine ha hid W st H ρ σ x s1 g rs e1 _ fun W1 v1 H1 g1 o1 r1 => ?_
  exact hf hid W1 s1 H1 v1 x _ o1 r1 e3 Q fun v H' g3 o3 r3 => q W1 v H' (g1.trans g3) o3 r3
theorem ev_2 (hf : R2O K r f) (ha : EvE K ta ma) (hb : EvE K tb mb) : EvE K (tOp r ta tb) (m2 f ma mb) := by
  intro hid W st H ρ σ d st' g rs e Q q
  obtain ⟨⟨x, s1⟩, e1, e⟩ := Option.bind_eq_some_iff.mp e
  obtain ⟨⟨y, s2⟩, e2, e⟩ := Option.bind_eq_some_iff.mp e
  obtain ⟨z, e3, e4⟩ := Option.map_eq_some_iff.mp e
  cases e4
  refine ha hid W st H ρ σ x s1 g rs e1 _ fun W1 v1 H1 g1 o1 r1 => ?_
  refine hb hid W1 s1 H1 ρ σ y s2 o1 (g1.rs rs) e2 _ fun W2 v2 H2 g2 o2 r2 => ?_
  exact hf hid W2 s2 H2 v1 v2 x y _ o2 (g2.rp r1) r2 e3 Q fun v H' g3 o3 r3 => q W2 v H' (g1.trans (g2.trans g3)) o3 r3
theorem ev_nil : EvA K tNil aNil := by
  intro hid W st H ρ σ d st' g rs e Q q
  cases e
  exact q W [] H Gr.refl g .nil
theorem ev_cons (ha : EvE K ta ma) (hr : EvA K tA mA) : EvA K (tCons ta tA) (aCons ma mA) := by
  intro hid W st H ρ σ ds st' g rs e Q q
  obtain ⟨⟨x, s1⟩, e1, e⟩ := Option.bind_eq_some_iff.mp e
  obtain ⟨⟨ys, s2⟩, e2, e4⟩ := Option.map_eq_some_iff.mp e
  cases e4
  refine ha hid W st H ρ σ x s1 g rs e1 _ fun W1 v1 H1 g1 o1 r1 => ?_
  refine hr hid W1 s1 H1 ρ σ ys s2 o1 (g1.rs rs) e2 _ fun W2 vs H2 g2 o2 r2 => ?_
  exact q W2 (v1 :: vs) H2 (g1.trans g2) o2 (.cons (g2.rp r1) r2)
theorem ev_N {rr : List V → Hp → VK → Prop} {fN : State → List D → Option D} (hf : RNO K rr fN) (ha : EvA K tA mA) : EvE K (tCB rr tA) (mN fN mA) := by
  intro hid W st H ρ σ d st' g rs e Q q
  obtain ⟨⟨xs, s1⟩, e1, e⟩ := Option.bind_eq_some_iff.mp e
  obtain ⟨z, e3, e4⟩ := Option.map_eq_some_iff.mp e
  cases e4
  refine ha hid W st H ρ σ xs s1 g rs e1 _ fun W1 vs H1 g1 o1 r1 => ?_
  exact hf hid W1 s1 H1 vs xs _ o1 r1 e3 Q fun v H' g3 o3 r3 => q W1 v H' (g1.trans g3) o3 r3
theorem ev_and (ha : EvE K ta ma) (hb : EvE K tb mb) : EvE K (tAndV ta tb) (mAnd ma mb) := by
  intro hid W st H ρ σ d st' g rs e Q q
  obtain ⟨⟨x, s1⟩, e1, e⟩ := Option.bind_eq_some_iff.mp e
  refine ha hid W st H ρ σ x s1 g rs e1 _ fun W1 v1 H1 g1 o1 r1 => ?_
  match x, r1, e with
  | .bl true, .bl _, e =>
    refine ⟨true, rfl, ?_⟩
    rw [if_pos rfl]
    exact hb hid W1 s1 H1 ρ σ d st' o1 (g1.rs rs) e Q fun W2 v2 H2 g2 o2 r2 => q W2 v2 H2 (g1.trans g2) o2 r2
  | .bl false, .bl _, e =>
    cases e
    refine ⟨false, rfl, ?_⟩
    rw [if_neg Bool.false_ne_true]
    exact q W1 _ H1 g1 o1 (.bl false)
/-- a test that is a value's -/
theorem ev_test (ha : EvE K ta ma) : EvT K (fun σ H Q => ta σ H fun x H' => ∃ k, x = .bl k ∧ Q k H') (tOf ma) := by
  intro hid W st H ρ σ b st' g rs e Q q
  obtain ⟨⟨x, s1⟩, e1, e⟩ := Option.bind_eq_some_iff.mp e
  refine ha hid W st H ρ σ x s1 g rs e1 _ fun W1 v1 H1 g1 o1 r1 => ?_
  match x, r1, e with
  | .bl c, .bl _, e =>
    cases e
    exact ⟨_, rfl, q W1 H1 g1 o1⟩
theorem ev_tnot (h : EvT K t mt) : EvT K (tNot t) (tNotM mt) := by
  intro hid W st H ρ σ b st' g rs e Q q
  obtain ⟨⟨c, s1⟩, e1, e2⟩ := Option.map_eq_some_iff.mp e
  cases e2
  exact h hid W st H ρ σ c s1 g rs e1 _ fun W1 H1 g1 o1 => q W1 H1 g1 o1
theorem ev_tor (h : EvT K t mt) (h2 : EvT K u mu) : EvT K (tOr t u) (tOrM mt mu) := by
  intro hid W st H ρ σ b st' g rs e Q q
  obtain ⟨⟨c, s1⟩, e1, e⟩ := Option.bind_eq_some_iff.mp e
  refine h hid W st H ρ σ c s1 g rs e1 _ fun W1 H1 g1 o1 => ?_
  cases c with
  | true =>
    rw [if_pos rfl] at e ⊢
    cases e
    exact q W1 H1 g1 o1
  | false =>
    rw [if_neg Bool.false_ne_true] at e ⊢
    exact h2 hid W1 s1 H1 ρ σ b st' o1 (g1.rs rs) e Q fun W2 H2 g2 o2 => q W2 H2 (g1.trans g2) o2
end
/-! ## expressions -/
section
variable {X : Cx} {a b c e : Expr} {es : List Expr} {ma mb mc me : ME} {mA : MA} {mt mu : MT} {pos p : Pos} {r r' : R2} {f f' : State → D → D → Option D}
theorem d_var (i : Nat) {x : Str} (hN : X.N[i]? = some x := by rfl) (hv : Vis X.env.scope x := by first | exact Or.inl rfl | exact Or.inr (Or.inl rfl) | exact Or.inr (Or.inr rfl)) (hd : (x == ("__debug__" : Str)) = false := by decide)
    (hcd : (x == ("__classdict__" : Str)) = false := by decide) : ED X (.Name x pos) (mVar i) := ⟨_, pv i hN hv hd hcd, ev_var i⟩
theorem d_int {i : Int} {j : Nat} : ED X (.Constant (.int i) j pos) (mC (.int i)) := ⟨_, pe_int, ev_c fun _ _ => .int i⟩
theorem d_str {x : Str} {j : Nat} : ED X (.Constant (.str x) j pos) (mC (.str x)) := ⟨_, pe_str, ev_c fun _ _ => .str x⟩
theorem d_bl {x : Bool} {j : Nat} : ED X (.Constant (.bool x) j pos) (mC (.bl x)) := ⟨_, pe_bl, ev_c fun _ _ => .bl x⟩
theorem d_non {j : Nat} : ED X (.Constant .none j pos) (mC .non) := ⟨_, pe_non, ev_c fun _ _ => .non⟩
theorem d_gty {x : Str} {T : String} (hg : Gl X x) (hm : X.mg x = none) (hv : bootBuiltins x = some (.type T)) (hn : x ≠ "__name__" := by decide) (hd : (x == ("__debug__" : Str)) = false := by decide) : ED X (.Name x pos) (mC (.ty T)) :=
  ⟨_, pe_bltn hg hm hv (v := .ty T) rfl hn hd, ev_c fun _ _ => .ty T⟩
theorem d_op {op : Operator} (ho : OpR X (binaryOp op) r) (hf : R2O X.K r f) (ha : ED X a ma) (hb : ED X b mb) : ED X (.BinOp a op b pos) (m2 f ma mb) :=
  let ⟨_, p1, q1⟩ := ha.ex
  let ⟨_, p2, q2⟩ := hb.ex
  ⟨_, pe_op ho p1 p2, ev_2 hf q1 q2⟩
theorem d_cmp {op : CmpOp} (ho : OpR X (compareOp op) r) (hf : R2O X.K r f) (ha : ED X a ma) (hb : ED X b mb) (hm : behindInMarks op b = false) : ED X (.Compare a [op] [b] pos) (m2 f ma mb) :=
  let ⟨_, p1, q1⟩ := ha.ex
  let ⟨_, p2, q2⟩ := hb.ex
  ⟨_, pe_cmpR ho p1 p2 hm, ev_2 hf q1 q2⟩
theorem d_ix (ho : IxR X r) (hf : R2O X.K r f) (ha : ED X a ma) (hb : ED X b mb) (hs : PlainIx b) : ED X (.Subscript a b pos) (m2 f ma mb) :=
  let ⟨_, p1, q1⟩ := ha.ex
  let ⟨_, p2, q2⟩ := hb.ex
  ⟨_, pe_ix ho p1 p2 hs, ev_2 hf q1 q2⟩
theorem d_one {op} (h : ED X a ma) : ED X (.BoolOp op [a] pos) ma := let ⟨_, p1, q1⟩ := h.ex; ⟨_, pe_one p1, q1⟩
theorem d_and {rest : List Expr} (ha : ED X a ma) (hb : ED X (.BoolOp .And (b :: rest) pos) mb) : ED X (.BoolOp .And (a :: b :: rest) pos) (mAnd ma mb) :=
  let ⟨_, p1, q1⟩ := ha.ex
  let ⟨_, p2, q2⟩ := hb.ex
  ⟨_, pe_and p1 p2, ev_and q1 q2⟩
theorem a_nil : AD X [] aNil := ⟨_, pa_nil, ev_nil⟩
theorem a_cons (ha : ED X e me) (hr : AD X es mA) (hs : starEach (e :: es) X.env = (false, eval e X.env) :: starEach es X.env := by rfl) : AD X (e :: es) (aCons me mA) :=
  let ⟨_, p1, q1⟩ := ha.ex
  let ⟨_, p2, q2⟩ := hr.ex
  ⟨_, pa_cons p1 p2 hs, ev_cons q1 q2⟩
/-- a built-in called by its name; a built-in class -/
theorem d_callB {x : Str} {id : String} {rr : List V → Hp → VK → Prop} {fN : State → List D → Option D} (hc : CallR X (.builtin id) rr) (hf : RNO X.K rr fN) (hg : Gl X x) (hm : X.mg x = none) (hv : bootBuiltins x = some (.builtin id)) (ha : AD X (e :: es) mA)
    (hn : x ≠ "__name__" := by decide) (hdb : (x == ("__debug__" : Str)) = false := by decide) (he : starEach (e :: es) X.env = (false, eval e X.env) :: starEach es X.env := by rfl) (hpl : (backTo pos (starEach es X.env)).any (·.1) = false := by rfl) :
    ED X (.Call (.Name x p) (e :: es) [] pos) (mN fN mA) :=
  let ⟨_, p1, q1⟩ := ha.ex
  ⟨_, pe_callB hc hg hm hv p1 hn hdb he hpl, ev_N hf q1⟩
theorem d_callTy {x : Str} {T : String} {rr : List V → Hp → VK → Prop} {fN : State → List D → Option D} (hc : CallR X (.type T) rr) (hf : RNO X.K rr fN) (hg : Gl X x) (hm : X.mg x = none) (hv : bootBuiltins x = some (.type T)) (ha : AD X (e :: es) mA)
    (hn : x ≠ "__name__" := by decide) (hdb : (x == ("__debug__" : Str)) = false := by decide) (he : starEach (e :: es) X.env = (false, eval e X.env) :: starEach es X.env := by rfl) (hpl : (backTo pos (starEach es X.env)).any (·.1) = false := by rfl) :
    ED X (.Call (.Name x p) (e :: es) [] pos) (mN fN mA) :=
  let ⟨_, p1, q1⟩ := ha.ex
  ⟨_, pe_callTy hc hg hm hv p1 hn hdb he hpl, ev_N hf q1⟩
/-! tests -/
theorem t_val (h : ED X e me) (he : ∀ whole, isTrue e X.env whole = (do let v ← whole; standAt e.pos; holding [v] (truthy v)) := by intro _; rfl) : TD X e (tOf me) :=
  let ⟨_, p1, q1⟩ := h.ex; ⟨_, pt_val p1 he, ev_test q1⟩
theorem t_cmp {op : CmpOp} (ho : OpR X (compareOp op) r) (hf : R2O X.K r f) (ha : ED X a ma) (hb : ED X b mb) (hm : behindInMarks op b = false) : TD X (.Compare a [op] [b] pos) (tOf (m2 f ma mb)) :=
  let ⟨_, p1, q1⟩ := ha.ex
  let ⟨_, p2, q2⟩ := hb.ex
  ⟨_, pt_cmpR ho p1 p2 hm, ev_test (ev_2 hf q1 q2)⟩
theorem t_not (h : TD X a mt) : TD X (.UnaryOp .Not a pos) (tNotM mt) := let ⟨_, p1, q1⟩ := h.ex; ⟨_, pt_not p1, ev_tnot q1⟩
theorem t_of (h : WD X e mt) : TD X e mt := let ⟨_, p1, q1⟩ := h.ex; ⟨_, p1.pt, q1⟩
theorem w_or1 (h : TD X a mt) : WD X (.BoolOp .Or [a] pos) mt := let ⟨_, p1, q1⟩ := h.ex; ⟨_, pw_or1 p1, q1⟩
theorem w_or {rest : List Expr} (h : TD X a mt) (h2 : WD X (.BoolOp .Or (b :: rest) pos) mu) : WD X (.BoolOp .Or (a :: b :: rest) pos) (tOrM mt mu) :=
  let ⟨_, p1, q1⟩ := h.ex
  let ⟨_, p2, q2⟩ := h2.ex
  ⟨_, pw_or p1 p2, ev_tor q1 q2⟩
end
/-- sizes that are surely small enough -/
def few (n : Nat) : Bool := decide (n ≤ 1000000)
theorem few_le {n : Nat} (h : few n = true) : n ≤ sizeLine := Nat.le_trans (of_decide_eq_true h) (by decide)
theorem few_lt {n : Nat} (h : few n = true) : n < sizeLine := Nat.lt_of_le_of_lt (of_decide_eq_true h) (by decide)
/-! ## displays -/
def mTup (a : MA) : ME := fun ρ st => (a ρ st).bind fun p => if few p.1.length = true then some (.tup p.1, p.2) else none
def mLst (a : MA) : ME := fun ρ st => (a ρ st).bind fun p => if few p.1.length = true then some (.lst p.1, p.2) else none
/-- a list that is kept apart -/
def mOwn (a : MA) : ME := fun ρ st => (a ρ st).bind fun p => if few p.1.length = true then some (.own p.2.length, p.2 ++ [p.1]) else none
section
variable {K : PySem.W.Frag} {hid W : List Addr} {st : State} {H : Hp}
theorem Good.lst1 (g : Good K hid W st H) {p : Addr} (hp : H p = none) {xs : List V} {ds : List D} (r : RpAll K W (hd (hid ++ W) H) xs ds) : Rp K W (hd (hid ++ W) (upd H p (.lst xs))) (.ref p) (.lst ds) :=
  .lst (g.hd1 hp) ((Gr.new1 hp).rps r)
theorem Good.tup1 (g : Good K hid W st H) {p : Addr} (hp : H p = none) {xs : List V} {ds : List D} (r : RpAll K W (hd (hid ++ W) H) xs ds) : Rp K W (hd (hid ++ W) (upd H p (.tup xs))) (.ref p) (.tup ds) :=
  .tup (.inl (.inl (g.hd1 hp))) ((Gr.new1 hp).rps r)
/-- a new list is put apart -/
theorem Good.push (g : Good K hid W st H) {p : Addr} (hp : H p = none) {xs : List V} {ds : List D} (r : RpAll K W (hd (hid ++ W) H) xs ds) :
    Gr W H (W ++ [p]) (upd H p (.lst xs)) ∧ Good K hid (W ++ [p]) (st ++ [ds]) (upd H p (.lst xs)) := by
  have off := g.off hp
  rw [List.mem_append, not_or] at off
  have G : Gr W H (W ++ [p]) (upd H p (.lst xs)) := by
    refine ⟨fun j a e => ?_, fun a ha => ?_, fun a o _ e => by rw [upd_ne (ne_of_none e hp)]; exact e, fun a o _ e => ⟨o, by rw [upd_ne (ne_of_none e hp)]; exact e, rfl⟩⟩
    · rw [List.getElem?_append_left (List.getElem?_eq_some_iff.mp e).1]; exact e
    · rcases List.mem_append.mp ha with q | q
      · exact .inl q
      · rw [List.mem_singleton.mp q]; exact .inr hp
  refine ⟨G, ⟨?_, fun a ha z => (List.mem_append.mp ha).elim (fun h => g.dis a h z) (fun h => off.1 (by rw [← List.mem_singleton.mp h]; exact z)), ?_, fun a ha => ?_, fun j a es h1 h2 => ?_⟩⟩
  · exact List.nodup_append.mpr ⟨g.nd, by simp, fun a ha b hb => by rw [List.mem_singleton.mp hb]; exact fun z => off.2 (z ▸ ha)⟩
  · rw [List.length_append, List.length_append, g.len]; rfl
  · by_cases q : a = p
    · rw [q, upd_same]; exact Option.some_ne_none _
    · rw [upd_ne q]; exact g.dom a ha
  · by_cases hj : j < W.length
    · rw [List.getElem?_append_left hj] at h1
      rw [List.getElem?_append_left (by rw [← g.len]; exact hj)] at h2
      have o := g.own j a es h1 h2
      obtain ⟨_, e, _⟩ := o.what
      exact o.move (upd_ne (ne_of_none e hp)) G.pre G.hd
    · have hj2 : j < (W ++ [p]).length := (List.getElem?_eq_some_iff.mp h1).1
      rw [List.length_append, List.length_singleton] at hj2
      obtain rfl : j = W.length := by omega
      have e1 : a = p := by simpa using h1.symm
      have e2 : es = ds := by rw [g.len] at h2; simpa using h2.symm
      subst e1 e2
      exact .lst upd_same (G.rps r)
end
section
variable {X : Cx} {es : List Expr} {mA : MA} {pos : Pos}
theorem d_tup {x1} (h : AD X es mA) : ED X (.Tuple es x1 pos) (mTup mA) := by
  obtain ⟨_, p1, q1⟩ := h.ex
  refine ⟨_, pe_tup p1, ?_⟩
  intro hid W st H ρ σ d st' g rs e Q q
  obtain ⟨⟨ds, s1⟩, e1, e⟩ := Option.bind_eq_some_iff.mp e
  refine q1 hid W st H ρ σ ds s1 g rs e1 _ fun W1 vs H1 g1 o1 r1 => ?_
  split at e
  · rename_i hf
    cases e
    refine ⟨by rw [r1.length]; exact few_le hf, fun p hp => q W1 _ _ (g1.trans (Gr.new1 hp)) (o1.new1 hp) (o1.tup1 hp r1)⟩
  · cases e
theorem d_lst (h : AD X es mA) : ED X (.List es pos) (mLst mA) := by
  obtain ⟨_, p1, q1⟩ := h.ex
  refine ⟨_, pe_lst p1, ?_⟩
  intro hid W st H ρ σ d st' g rs e Q q
  obtain ⟨⟨ds, s1⟩, e1, e⟩ := Option.bind_eq_some_iff.mp e
  refine q1 hid W st H ρ σ ds s1 g rs e1 _ fun W1 vs H1 g1 o1 r1 => ?_
  split at e
  · rename_i hf
    cases e
    refine ⟨by rw [r1.length]; exact few_le hf, fun p hp => q W1 _ _ (g1.trans (Gr.new1 hp)) (o1.new1 hp) (o1.lst1 hp r1)⟩
  · cases e
theorem d_own (h : AD X es mA) : ED X (.List es pos) (mOwn mA) := by
  obtain ⟨_, p1, q1⟩ := h.ex
  refine ⟨_, pe_lst p1, ?_⟩
  intro hid W st H ρ σ d st' g rs e Q q
  obtain ⟨⟨ds, s1⟩, e1, e⟩ := Option.bind_eq_some_iff.mp e
  refine q1 hid W st H ρ σ ds s1 g rs e1 _ fun W1 vs H1 g1 o1 r1 => ?_
  split at e
  · rename_i hf
    cases e
    refine ⟨by rw [r1.length]; exact few_le hf, fun p hp => ?_⟩
    obtain ⟨g2, o2⟩ := o1.push hp r1
    exact q _ _ _ (g1.trans g2) o2 (.own (by rw [← o1.len]; simp))
  · cases e
end
/-! ## slices -/
abbrev MO := Store → State → Option (Option Int × State)
def oNone : MO := fun _ st => some (none, st)
def oSome (a : ME) : MO := fun ρ st => (a ρ st).bind fun p => match p.1 with
  | .int i => some (some i, p.2)
  | _ => none
def mSl (f : State → D → Option Int → Option Int → Option D) (a : ME) (lo hi : MO) : ME := fun ρ st => (a ρ st).bind fun p => (lo ρ p.2).bind fun q => (hi ρ q.2).bind fun r => (f r.2 p.1 q.1 r.1).map fun z => (z, r.2)
def EvO (K : PySem.W.Frag) (to : TO) (m : MO) : Prop := ∀ (hid W : List Addr) (st : State) (H : Hp) (ρ : Store) (σ : L2.St) (b : Option Int) (st' : State), Good K hid W st H → Rs K W (hd (hid ++ W) H) ρ σ → m ρ st = some (b, st') →
  ∀ Q : Option Int → Hp → Prop, (∀ W' H', Gr W H W' H' → Good K hid W' st' H' → Q b H') → to σ H Q
structure OD (X : Cx) (e : Option Expr) (m : MO) : Prop where
  ex : ∃ to, PO X e to ∧ EvO X.K to m
def RSO (K : PySem.W.Frag) (r : V → Option Int → Option Int → Hp → VK → Prop) (f : State → D → Option Int → Option Int → Option D) : Prop := ∀ (hid W : List Addr) (st : State) (H : Hp) (x : V) (a : D) (lo hi : Option Int) (d : D), Good K hid W st H → Rp K W (hd (hid ++ W) H) x a → f st a lo hi = some d →
  ∀ Q : VK, (∀ v H', Gr W H W H' → Good K hid W st H' → Rp K W (hd (hid ++ W) H') v d → Q v H') → r x lo hi H Q
section
variable {X : Cx} {e : Expr} {me : ME} {pos p2 : Pos}
theorem o_none : OD X none oNone := by
  refine ⟨_, po_none, ?_⟩
  intro hid W st H ρ σ b st' g rs e Q q
  cases e
  exact q W H Gr.refl g
theorem o_some (h : ED X e me) : OD X (some e) (oSome me) := by
  obtain ⟨_, p1, q1⟩ := h.ex
  refine ⟨_, po_some p1, ?_⟩
  intro hid W st H ρ σ b st' g rs e Q q
  obtain ⟨⟨x, s1⟩, e1, e⟩ := Option.bind_eq_some_iff.mp e
  refine q1 hid W st H ρ σ x s1 g rs e1 _ fun W1 v1 H1 g1 o1 r1 => ?_
  match x, r1, e with
  | .int i, .int _, e =>
    cases e
    exact ⟨i, rfl, q W1 H1 g1 o1⟩
theorem d_sl {r : V → Option Int → Option Int → Hp → VK → Prop} {f : State → D → Option Int → Option Int → Option D} {lo hi : Option Expr} {ml mh : MO} (hr : SlR X r) (hf : RSO X.K r f) (he : ED X e me) (hl : OD X lo ml) (hh : OD X hi mh) :
    ED X (.Subscript e (.Slice lo hi none p2) pos) (mSl f me ml mh) := by
  obtain ⟨_, p1, q1⟩ := he.ex
  obtain ⟨_, p2, q2⟩ := hl.ex
  obtain ⟨_, p3, q3⟩ := hh.ex
  refine ⟨_, pe_slice hr p1 p2 p3, ?_⟩
  intro hid W st H ρ σ d st' g rs e Q q
  obtain ⟨⟨x, s1⟩, e1, e⟩ := Option.bind_eq_some_iff.mp e
  obtain ⟨⟨l, s2⟩, e2, e⟩ := Option.bind_eq_some_iff.mp e
  obtain ⟨⟨h, s3⟩, e3, e⟩ := Option.bind_eq_some_iff.mp e
  obtain ⟨z, e4, e5⟩ := Option.map_eq_some_iff.mp e
  cases e5
  refine q1 hid W st H ρ σ x s1 g rs e1 _ fun W1 v1 H1 g1 o1 r1 => ?_
  refine q2 hid W1 s1 H1 ρ σ l s2 o1 (g1.rs rs) e2 _ fun W2 H2 g2 o2 => ?_
  refine q3 hid W2 s2 H2 ρ σ h s3 o2 ((g1.trans g2).rs rs) e3 _ fun W3 H3 g3 o3 => ?_
  exact hf hid W3 s3 H3 v1 x l h _ o3 ((g2.trans g3).rp r1) e4 Q fun v H' g4 o4 r4 => q W3 v H' (g1.trans (g2.trans (g3.trans g4))) o4 r4
end
/-! ## what is walked -/
structure Src (K : PySem.W.Frag) (hid W : List Addr) (H : Hp) (J : It) (items : List D) : Prop where
  step : ∀ (hid' W' : List Addr) (H' : Hp) (i : Nat) (d : D), (∀ a o, hd (hid ++ W) H a = some o → hd (hid' ++ W') H' a = some o) → (∀ (j : Nat) (a : Addr), W[j]? = some a → W'[j]? = some a) → items[i]? = some d →
    J.go i H' ∧ ∀ x H'', J.yld i H' x H'' → (∀ a o, H' a = some o → H'' a = some o) ∧ ∀ hh : Hp, (∀ a o, hd (hid' ++ W') H' a = some o → hh a = some o) → (∀ a o, H' a = none → H'' a = some o → hh a = some o) → Rp K W' hh x d
  stop : ∀ (hid' W' : List Addr) (H' : Hp), (∀ a o, hd (hid ++ W) H a = some o → hd (hid' ++ W') H' a = some o) → (∀ (j : Nat) (a : Addr), W[j]? = some a → W'[j]? = some a) → J.stop items.length H'
def EvI (K : PySem.W.Frag) (wi : TI) (m : MA) : Prop := ∀ (hid W : List Addr) (st : State) (H : Hp) (ρ : Store) (σ : L2.St) (ds : List D) (st' : State), Good K hid W st H → Rs K W (hd (hid ++ W) H) ρ σ → m ρ st = some (ds, st') →
  ∀ R : It → Hp → Prop, (∀ W' J H', Gr W H W' H' → Good K hid W' st' H' → Src K hid W' H' J ds → R J H') → wi σ H R
structure ID (X : Cx) (tg e : Expr) (m : MA) : Prop where
  ex : ∃ wi, PI X tg e wi ∧ EvI X.K wi m
def iLst (a : ME) : MA := fun ρ st => (a ρ st).bind fun p => match p.1 with
  | .lst ds => some (ds, p.2)
  | _ => none
def iTupM (a : ME) : MA := fun ρ st => (a ρ st).bind fun p => match p.1 with
  | .tup ds => some (ds, p.2)
  | _ => none
def upTo (n : Nat) : List D := (List.range n).map fun (i : Nat) => .int (i : Int)
def iRngM (a : ME) : MA := fun ρ st => (a ρ st).bind fun p => match p.1 with
  | .int n => if n ≤ 1000000 ∧ -1000000 ≤ n then some (upTo n.toNat, p.2) else none
  | _ => none
theorem hd_sub {A : List Addr} {H : Hp} : ∀ a o, hd A H a = some o → H a = some o := fun _ _ e => (hd_some.mp e).2
section
variable {X : Cx} {tg e : Expr} {me : ME} {pos p : Pos}
theorem i_list (h : ED X e me) : ID X tg e (iLst me) := by
  obtain ⟨_, p1, q1⟩ := h.ex
  refine ⟨_, pi_list p1, ?_⟩
  intro hid W st H ρ σ ds st' g rs e R q
  obtain ⟨⟨x, s1⟩, e1, e⟩ := Option.bind_eq_some_iff.mp e
  refine q1 hid W st H ρ σ x s1 g rs e1 _ fun W1 v1 H1 g1 o1 r1 => ?_
  match x, r1, e with
  | .lst es, .lst (a := a) (xs := xs) h1 h2, e =>
    cases e
    have hS : SqL X.K H1 a xs := SqL.of (hd_sub _ _ h1)
    refine ⟨a, rfl, ⟨xs, hS⟩, q W1 _ H1 g1 o1 ⟨fun hid' W' H' i d hm hp hi => ?_, fun hid' W' H' hm hp => ?_⟩⟩
    · obtain ⟨v, hv, rv⟩ := h2.get hi
      have hS' : SqL X.K H' a xs := SqL.of (hd_sub _ _ (hm _ _ h1))
      refine ⟨⟨xs, v, hS', hv⟩, fun y H'' hy => ?_⟩
      obtain ⟨rfl, fy⟩ := hy
      obtain rfl : y = v := Option.some.inj ((fy _ hS').symm.trans hv)
      exact ⟨fun _ _ z => z, fun hh k1 _ => Rp.mono hp (fun a o z => k1 a o (hm a o z)) _ _ rv⟩
    · exact ⟨xs, SqL.of (hd_sub _ _ (hm _ _ h1)), Nat.le_of_eq h2.length⟩
theorem i_tup (h : ED X e me) : ID X tg e (iTupM me) := by
  obtain ⟨_, p1, q1⟩ := h.ex
  refine ⟨_, pi_tup p1, ?_⟩
  intro hid W st H ρ σ ds st' g rs e R q
  obtain ⟨⟨x, s1⟩, e1, e⟩ := Option.bind_eq_some_iff.mp e
  refine q1 hid W st H ρ σ x s1 g rs e1 _ fun W1 v1 H1 g1 o1 r1 => ?_
  match x, r1, e with
  | .tup es, .tup (a := a) (xs := xs) h1 h2, e =>
    cases e
    have hS : SqT X.K H1 a xs := Evl.ex_t hd_sub h1
    refine ⟨a, rfl, ⟨xs, hS⟩, q W1 _ H1 g1 o1 ⟨fun hid' W' H' i d hm hp hi => ?_, fun hid' W' H' hm hp => ?_⟩⟩
    · obtain ⟨v, hv, rv⟩ := h2.get hi
      have hS' : SqT X.K H' a xs := Evl.ex_t hd_sub (Evl.ex_t hm h1)
      refine ⟨⟨xs, v, hS', hv⟩, fun y H'' hy => ?_⟩
      obtain ⟨rfl, fy⟩ := hy
      obtain rfl : y = v := Option.some.inj ((fy _ hS').symm.trans hv)
      exact ⟨fun _ _ z => z, fun hh k1 _ => Rp.mono hp (fun a o z => k1 a o (hm a o z)) _ _ rv⟩
    · exact ⟨xs, Evl.ex_t hd_sub (Evl.ex_t hm h1), Nat.le_of_eq h2.length⟩
theorem i_range {me : ME} {a : Expr} (hg : Gl X "range") (hm : X.mg "range" = none) (h : ED X a me) (hs : starEach [a] X.env = [(false, eval a X.env)] := by rfl) : ID X tg (.Call (.Name "range" p) [a] [] pos) (iRngM me) := by
  obtain ⟨_, p1, q1⟩ := h.ex
  refine ⟨_, pi_range1 hg hm (pa_cons p1 pa_nil hs) hs, ?_⟩
  intro hid W st H ρ σ ds st' g rs e R q
  obtain ⟨⟨x, s1⟩, e1, e⟩ := Option.bind_eq_some_iff.mp e
  refine q1 hid W st H ρ σ x s1 g rs e1 _ fun W1 v1 H1 g1 o1 r1 => ?_
  match x, r1, e with
  | .int n, .int _, e =>
    have e' : (if n ≤ 1000000 ∧ -1000000 ≤ n then some (upTo n.toNat, s1) else none) = some (ds, st') := e
    split at e'
    · rename_i hn
      cases e'
      refine ⟨n, rfl, by omega, by omega, q W1 _ H1 g1 o1 ⟨fun hid' W' H' i d hm hp hi => ?_, fun hid' W' H' hm hp => ?_⟩⟩
      · unfold upTo at hi
        rw [List.getElem?_map] at hi
        obtain ⟨c, hc, rfl⟩ := Option.map_eq_some_iff.mp hi
        have hl := (List.getElem?_eq_some_iff.mp hc).1
        rw [List.length_range] at hl
        have hv : i = c := by simpa [hl] using hc
        subst hv
        refine ⟨hl, fun y H'' hy => ?_⟩
        obtain ⟨rfl, rfl⟩ := hy
        refine ⟨fun _ _ z => z, fun hh _ _ => ?_⟩
        rw [Int.zero_add]
        exact .int _
      · show n.toNat ≤ (upTo n.toNat).length
        unfold upTo
        rw [List.length_map, List.length_range]
        exact Nat.le_refl _
    · cases e'
end
/-! ## targets -/
abbrev MG := D → Store → Option Store
/-- a target that stores into the slots vs alone -/
def EvG (K : PySem.W.Frag) (tg : TG) (vs : List Nat) (m : MG) : Prop := ∀ (hid W : List Addr) (st : State) (H : Hp) (ρ : Store) (σ : L2.St) (v : V) (d : D) (ρ' : Store), Good K hid W st H → Rs K W (hd (hid ++ W) H) ρ σ → Rp K W (hd (hid ++ W) H) v d → m d ρ = some ρ' →
  ∀ Q : L2.St → Hp → Prop, (∀ σ', Rs K W (hd (hid ++ W) H) ρ' σ' → σ'.length = σ.length → (∀ j, j ∉ vs → σ'[j]? = σ[j]?) → Q σ' H) → tg v σ H Q
structure GD (X : Cx) (e : Expr) (vs : List Nat) (m : MG) : Prop where
  ex : ∃ tg, PG X e tg ∧ EvG X.K tg vs m
structure GsD (X : Cx) (es : List Expr) (vs : List Nat) (m : List D → Store → Option Store) : Prop where
  ex : ∃ tg, PGs X es tg ∧ ∀ (hid W : List Addr) (st : State) (H : Hp) (ρ : Store) (σ : L2.St) (us : List V) (ds : List D) (ρ' : Store), Good X.K hid W st H → Rs X.K W (hd (hid ++ W) H) ρ σ → RpAll X.K W (hd (hid ++ W) H) us ds → m ds ρ = some ρ' →
    ∀ Q : L2.St → Hp → Prop, (∀ σ', Rs X.K W (hd (hid ++ W) H) ρ' σ' → σ'.length = σ.length → (∀ j, j ∉ vs → σ'[j]? = σ[j]?) → Q σ' H) → tg us σ H Q
def gNameM (i : Nat) : MG := fun d ρ => some (ρ.set i (some d))
def gsNil : List D → Store → Option Store := fun ds ρ => match ds with
  | [] => some ρ
  | _ => none
def gsCons (g : MG) (r : List D → Store → Option Store) : List D → Store → Option Store := fun ds ρ => match ds with
  | d :: ds => (g d ρ).bind fun ρ1 => r ds ρ1
  | _ => none
def gTupM (n : Nat) (m : List D → Store → Option Store) : MG := fun d ρ => match d with
  | .tup ds => if ds.length = n then m ds ρ else none
  | _ => none
section
variable {X : Cx} {pos : Pos}
theorem g_name {i : Nat} {x : Str} (hN : X.N.Nodup) (hi : X.N[i]? = some x) (hx : Loc X.env.scope x) (hf : X.fn x = true ∨ X.env.scope.names.lookup x = some .local := by first | exact .inl rfl | exact .inr rfl | assumption) : GD X (.Name x pos) [i] (gNameM i) := by
  refine ⟨_, pg_name hN hi hx hf, ?_⟩
  intro hid W st H ρ σ v d ρ' g rs r e Q q
  cases e
  exact q _ (rs.set r i) (List.length_set) fun j hj => List.getElem?_set_ne (fun z => hj (by rw [z]; exact List.mem_singleton.mpr rfl))
theorem gs_nil : GsD X [] [] gsNil := by
  refine ⟨_, pgs_nil, ?_⟩
  intro hid W st H ρ σ us ds ρ' g rs r e Q q
  cases r with
  | nil =>
    cases e
    exact ⟨rfl, q σ rs rfl fun _ _ => rfl⟩
  | cons _ _ => cases e
theorem gs_cons {e : Expr} {es : List Expr} {vs us : List Nat} {m : MG} {mr : List D → Store → Option Store} (h1 : GD X e vs m) (h2 : GsD X es us mr)
    (hs : (assignEach (e :: es) X.env).map (·.2) = assign e X.env :: (assignEach es X.env).map (·.2) := by rfl) : GsD X (e :: es) (vs ++ us) (gsCons m mr) := by
  obtain ⟨_, p1, q1⟩ := h1.ex
  obtain ⟨_, p2, q2⟩ := h2.ex
  refine ⟨_, pgs_cons p1 p2 hs, ?_⟩
  intro hid W st H ρ σ ws ds ρ' g rs r e Q q
  cases r with
  | nil => cases e
  | @cons v vr d dr r1 r2 =>
    obtain ⟨ρ1, e1, e2⟩ := Option.bind_eq_some_iff.mp e
    refine ⟨v, vr, rfl, q1 hid W st H ρ σ v d ρ1 g rs r1 e1 _ fun σ1 rs1 hl1 hk1 => ?_⟩
    refine q2 hid W st H ρ1 σ1 vr dr ρ' g rs1 r2 e2 _ fun σ2 rs2 hl2 hk2 => q σ2 rs2 (hl2.trans hl1) fun j hj => ?_
    rw [List.mem_append, not_or] at hj
    rw [hk2 j hj.2, hk1 j hj.1]
theorem g_tup {es : List Expr} {k : Nat} {vs : List Nat} {m : List D → Store → Option Store} {n : Nat} (hc : X.calm = true) (h : GsD X es vs m) (hn : (assignEach es X.env).length = n := by rfl) (hst : (assignEach es X.env).findIdx? (·.1) = none := by rfl) :
    GD X (.Tuple es k pos) vs (gTupM n m) := by
  obtain ⟨_, p1, q1⟩ := h.ex
  refine ⟨_, pg_tup hc p1 hn hst, ?_⟩
  intro hid W st H ρ σ v d ρ' g rs r e Q q
  match d, r, e with
  | .tup ds, .tup (a := a) (xs := xs) h1 h2, e =>
    have e' : (if ds.length = n then m ds ρ else none) = some ρ' := e
    split at e'
    · rename_i hl
      exact ⟨a, xs, rfl, Evl.ex_t hd_sub h1, by rw [h2.length]; exact hl, q1 hid W st H ρ σ xs ds ρ' g rs h2 e' Q q⟩
    · cases e'
end
/-! ## comprehensions -/
def wipeR (ρ : Store) : List Nat → Store
  | [] => ρ
  | v :: vs => (wipeR ρ vs).set v none
theorem Rs.wipes {K : PySem.W.Frag} {W : List Addr} {h : Hp} {ρ : Store} {σ : L2.St} (r : Rs K W h ρ σ) : ∀ vs : List Nat, Rs K W h (wipeR ρ vs) (L2.wipe σ vs)
  | [] => r
  | v :: vs => by
    unfold wipeR L2.wipe
    exact (r.wipes vs).wipe v
theorem wipe_get (σ : L2.St) (j : Nat) : ∀ vs : List Nat, (L2.wipe σ vs)[j]? = if j ∈ vs then σ[j]?.map (fun _ => none) else σ[j]?
  | [] => by rw [if_neg (by simp)]; rfl
  | v :: vs => by
    unfold L2.wipe
    by_cases hj : v = j
    · subst hj
      rw [if_pos List.mem_cons_self]
      by_cases hl : v < σ.length
      · rw [List.getElem?_set_self (by rw [L2.wipe_length]; exact hl), List.getElem?_eq_getElem hl]; rfl
      · rw [List.getElem?_eq_none (by rw [List.length_set, L2.wipe_length]; omega), List.getElem?_eq_none (by omega)]; rfl
    · rw [List.getElem?_set_ne hj, wipe_get σ j vs]
      by_cases hm : j ∈ vs
      · rw [if_pos hm, if_pos (List.mem_cons_of_mem _ hm)]
      · rw [if_neg hm, if_neg (by rw [List.mem_cons, not_or]; exact ⟨fun z => hj z.symm, hm⟩)]
theorem wipe_eq {σ σ2 : L2.St} {vs us : List Nat} (hl : σ2.length = (L2.wipe σ vs).length) (hk : ∀ j, j ∉ us → σ2[j]? = (L2.wipe σ vs)[j]?) (hs : ∀ j ∈ us, j ∈ vs) : L2.wipe σ2 vs = L2.wipe σ vs := by
  rw [L2.wipe_length] at hl
  apply List.ext_getElem?
  intro j
  rw [wipe_get, wipe_get]
  by_cases hj : j ∈ vs
  · rw [if_pos hj, if_pos hj]
    by_cases h1 : j < σ.length
    · rw [List.getElem?_eq_getElem h1, List.getElem?_eq_getElem (by omega)]; rfl
    · rw [List.getElem?_eq_none (by omega), List.getElem?_eq_none (by omega)]
  · rw [if_neg hj, if_neg hj, hk j (fun z => hj (hs j z)), wipe_get, if_neg hj]
def lcM (g : MG) (t : MT) (e : ME) (ρ : Store) : List D → State → Option (List D × State)
  | [], st => some ([], st)
  | d :: r, st => (g d ρ).bind fun ρ2 => (t ρ2 st).bind fun p => if p.1 = true then (e ρ2 p.2).bind fun q => (lcM g t e ρ r q.2).map fun z => (q.1 :: z.1, z.2) else lcM g t e ρ r p.2
def mLc (src : MA) (vs : List Nat) (g : MG) (t : MT) (e : ME) : ME := fun ρ st => (src ρ st).bind fun p => if few p.1.length = true then (lcM g t e (wipeR ρ vs) p.1 p.2).map fun z => (.lst z.1, z.2) else none
def tYesM : MT := fun _ st => some (true, st)
structure TsD (X : Cx) (ifs : List Expr) (m : MT) : Prop where
  ex : ∃ tt, PTs X ifs tt ∧ EvT X.K tt m
section
variable {X : Cx}
theorem ts_nil : TsD X [] tYesM := ⟨_, pts_nil, fun hid W st H ρ σ b st' g rs e Q q => by cases e; exact q W H Gr.refl g⟩
end
theorem hd_in {hid W : List Addr} {H : Hp} {p : Addr} {o : HO} (hp : H p = none) : ∀ a u, hd (hid ++ W) H a = some u → hd ((p :: hid) ++ W) (upd H p o) a = some u := by
  intro a u e
  rw [hd_some] at e ⊢
  obtain ⟨h1, h2⟩ := e
  have hne : a ≠ p := ne_of_none h2 hp
  refine ⟨fun z => ?_, by rw [upd_ne hne]; exact h2⟩
  rcases List.mem_cons.mp z with z | z
  · exact hne z
  · exact h1 z
theorem hd_out {p : Addr} {hid W : List Addr} {H : Hp} : ∀ a u, hd ((p :: hid) ++ W) H a = some u → hd (hid ++ W) H a = some u := by
  intro a u e
  rw [hd_some] at e ⊢
  exact ⟨fun z => e.1 (List.mem_cons_of_mem _ z), e.2⟩
/-- the building of a comprehension's list -/
theorem lc_walk {K : PySem.W.Frag} {wi : TI} {g : TG} {tt : TT} {te : TE} {vs us : List Nat} {src : MA} {mg : MG} {mt : MT} {me : ME} (hw : EvI K wi src) (hg : EvG K g us mg) (ht : EvT K tt mt) (he : EvE K te me) (hs : ∀ j ∈ us, j ∈ vs)
    {hid W : List Addr} {st : State} {H : Hp} {ρ : Store} {σ : L2.St} {items ds : List D} {s1 st' : State} (o : Good K hid W st H) (rs : Rs K W (hd (hid ++ W) H) ρ σ) (e1 : src ρ st = some (items, s1)) (hf : few items.length = true) (e2 : lcM mg mt me (wipeR ρ vs) items s1 = some (ds, st'))
    {Q : VK} (q : ∀ W' H' p xs, Gr W H W' H' → Good K (p :: hid) W' st' H' → p ∉ hid ++ W' → H p = none → H' p = some (.lst xs) → RpAll K W' (hd ((p :: hid) ++ W') H') xs ds → Q (.ref p) H') : tLc wi g tt te vs σ H Q := by
  refine hw hid W st H ρ σ items s1 o rs e1 _ fun W1 J H1 g1 o1 sr => ?_
  intro p hp
  have hp0 : H p = none := by
    cases e : H p with
    | none => rfl
    | some u =>
      by_cases hw : p ∈ W
      · obtain ⟨j, hj⟩ := List.mem_iff_getElem?.mp hw
        obtain ⟨xs, z, _⟩ := o1.at (List.mem_of_getElem? (g1.pre j p hj))
        rw [hp] at z; cases z
      · rw [g1.keep p u hw e] at hp; cases hp
  refine ⟨fun i m H' => ∃ W' s acc da dr, i + m = items.length ∧ Gr W1 H1 W' H' ∧ Good K (p :: hid) W' s H' ∧ p ∉ hid ++ W' ∧ H' p = some (.lst acc) ∧ RpAll K W' (hd ((p :: hid) ++ W') H') acc da ∧
      (∀ a u, hd (hid ++ W1) H1 a = some u → hd ((p :: hid) ++ W') H' a = some u) ∧ acc.length ≤ i ∧ da ++ dr = ds ∧ lcM mg mt me (wipeR ρ vs) (items.drop i) s = some (dr, st'), ?_, ?_⟩
  · refine ⟨items.length, W1, s1, [], [], ds, by omega, Gr.new1 hp, ?_, o1.off hp, upd_same, .nil, hd_in hp, Nat.le_refl _, rfl, by rw [List.drop_zero]; exact e2⟩
    have o2 := o1.new1 (o := .lst []) hp
    refine ⟨o2.nd, fun a ha z => (List.mem_cons.mp z).elim (fun e => by
      obtain ⟨xs, q, _⟩ := o1.at ha
      rw [e, hp] at q; cases q) (o1.dis a ha), o2.len, fun a ha => ?_, fun j a es h1 h2 => ?_⟩
    · rcases List.mem_cons.mp ha with z | z
      · rw [z, upd_same]; exact Option.some_ne_none _
      · exact o2.dom a z
    · have o := o1.own j a es h1 h2
      obtain ⟨_, e, _⟩ := o.what
      exact o.move (upd_ne (ne_of_none e hp)) (fun _ _ z => z) (hd_in hp)
  · rintro i m H' ⟨W', s, acc, da, dr, him, gr, go, poff, hpa, ra, hm, hal, hds, hrun⟩
    cases hdr : items.drop i with
    | nil =>
      have hi : i = items.length := by
        have := congrArg List.length hdr
        rw [List.length_drop] at this
        have h0 : ([] : List D).length = 0 := rfl
        omega
      rw [hdr] at hrun
      cases hrun
      rw [List.append_nil] at hds
      subst hds
      refine .inl ⟨by rw [hi]; exact sr.stop (p :: hid) W' H' hm gr.pre, q W' H' p acc (g1.trans gr) go poff hp0 hpa ra⟩
    | cons d rest =>
      have hi : items[i]? = some d := by
        have := congrArg List.head? hdr
        rw [List.head?_drop] at this
        exact this
      have hil : i < items.length := (List.getElem?_eq_some_iff.mp hi).1
      have hrest : items.drop (i + 1) = rest := by
        have := congrArg List.tail hdr
        rw [List.tail_drop] at this
        exact this
      rw [hdr] at hrun
      obtain ⟨ρ2, eg, hrun⟩ := Option.bind_eq_some_iff.mp hrun
      obtain ⟨⟨b, s2⟩, et, hrun⟩ := Option.bind_eq_some_iff.mp hrun
      obtain ⟨hgo, hy⟩ := sr.step (p :: hid) W' H' i d hm gr.pre hi
      refine .inr ⟨hgo, fun H'' => ∃ W'' s acc da dr, Gr W1 H1 W'' H'' ∧ Good K (p :: hid) W'' s H'' ∧ p ∉ hid ++ W'' ∧ H'' p = some (.lst acc) ∧ RpAll K W'' (hd ((p :: hid) ++ W'') H'') acc da ∧
        (∀ a u, hd (hid ++ W1) H1 a = some u → hd ((p :: hid) ++ W'') H'' a = some u) ∧ acc.length ≤ i + 1 ∧ da ++ dr = ds ∧ lcM mg mt me (wipeR ρ vs) rest s = some (dr, st'), ?_, ?_⟩
      · rintro H'' ⟨W'', s, acc, da, dr, z1, z2, z3, z4, z5, z6, z7, z8, z9⟩
        exact ⟨m - 1, by omega, W'', s, acc, da, dr, by omega, z1, z2, z3, z4, z5, z6, z7, z8, by rw [hrest]; exact z9⟩
      · intro x H2 hyx
        obtain ⟨ext, rx⟩ := hy x H2 hyx
        have gX : Gr W' H' W' H2 := ⟨fun _ _ z => z, fun _ z => .inl z, fun a u _ z => ext a u z, fun a u _ z => ⟨u, ext a u z, rfl⟩⟩
        have keepW : ∀ a ∈ W', H2 a = H' a := fun a ha => by
          obtain ⟨ys, e, _⟩ := go.at ha
          rw [ext a _ e, e]
        have go2 : Good K (p :: hid) W' s H2 := go.grow gX keepW
        have hp2 : H2 p = some (.lst acc) := ext p _ hpa
        have rv : Rp K W' (hd ((p :: hid) ++ W') H2) x d := by
          refine rx _ gX.hd fun a u z1 z2 => hd_some.mpr ⟨fun z => ?_, z2⟩
          rcases List.mem_cons.mp z with z | z
          · rw [z, hpa] at z1; cases z1
          · exact go.off z1 (List.mem_cons_of_mem _ z)
        have rs1 : Rs K W1 (hd (hid ++ W1) H1) (wipeR ρ vs) (L2.wipe σ vs) := (g1.rs rs).wipes vs
        have rs2 : Rs K W' (hd ((p :: hid) ++ W') H2) (wipeR ρ vs) (L2.wipe σ vs) := ⟨rs1.1, fun i d e => let ⟨v, h1, h2⟩ := rs1.2 i d e; ⟨v, h1, Rp.mono gr.pre (fun a u z => gX.hd a u (hm a u z)) _ _ h2⟩⟩
        refine hg (p :: hid) W' s H2 (wipeR ρ vs) (L2.wipe σ vs) x d ρ2 go2 rs2 rv eg _ fun σ2 rs3 hl3 hk3 => ⟨wipe_eq hl3 hk3 hs, ?_⟩
        refine ht (p :: hid) W' s H2 ρ2 σ2 b s2 go2 rs3 et _ fun W3 H3 g3 go3 => ?_
        have p3 : p ∉ W' := fun z => poff (List.mem_append_right _ z)
        have hp3 : H3 p = some (.lst acc) := g3.keep p _ p3 hp2
        have off3 : p ∉ hid ++ W3 := fun z => by
          rcases List.mem_append.mp z with z | z
          · exact poff (List.mem_append_left _ z)
          · rcases g3.new p z with z | z
            · exact p3 z
            · rw [hp2] at z; cases z
        have ra3 : RpAll K W3 (hd ((p :: hid) ++ W3) H3) acc da := (gX.trans g3).rps ra
        have hm3 : ∀ a u, hd (hid ++ W1) H1 a = some u → hd ((p :: hid) ++ W3) H3 a = some u := fun a u z => (gX.trans g3).hd a u (hm a u z)
        cases b with
        | false =>
          rw [if_neg Bool.false_ne_true] at hrun ⊢
          exact ⟨W3, s2, acc, da, dr, gr.trans (gX.trans g3), go3, off3, hp3, ra3, hm3, by omega, hds, hrun⟩
        | true =>
          rw [if_pos rfl] at hrun ⊢
          obtain ⟨⟨y, s4⟩, ee, hrun⟩ := Option.bind_eq_some_iff.mp hrun
          obtain ⟨⟨zs, s5⟩, er, ez⟩ := Option.map_eq_some_iff.mp hrun
          cases ez
          refine he (p :: hid) W3 s2 H3 ρ2 σ2 y s4 go3 (g3.rs rs3) ee _ fun W4 v H4 g4 go4 r4 => ?_
          have p4 : p ∉ W3 := fun z => off3 (List.mem_append_right _ z)
          have hp4 : H4 p = some (.lst acc) := g4.keep p _ p4 hp3
          have off4 : p ∉ hid ++ W4 := fun z => by
            rcases List.mem_append.mp z with z | z
            · exact poff (List.mem_append_left _ z)
            · rcases g4.new p z with z | z
              · exact p4 z
              · rw [hp3] at z; cases z
          have hk : ∀ a u, hd ((p :: hid) ++ W4) H4 a = some u → hd ((p :: hid) ++ W4) (upd H4 p (.lst (acc ++ [v]))) a = some u := fun a u z => by
            rw [hd_some] at z ⊢
            exact ⟨z.1, by rw [upd_ne (fun q => z.1 (by rw [q]; exact List.mem_cons_self))]; exact z.2⟩
          refine ⟨acc, hp4, few_lt (n := acc.length) (decide_eq_true (Nat.le_trans (Nat.le_trans hal (Nat.le_of_lt hil)) (of_decide_eq_true hf))), W4, s4, acc ++ [v], da ++ [y], zs, ?_, ?_, off4, upd_same, ?_, fun a u z => hk a u (g4.hd a u (hm3 a u z)), ?_, ?_, er⟩
          · have G := gr.trans (gX.trans (g3.trans g4))
            refine ⟨G.pre, G.new, fun a u z1 z2 => ?_, fun a u z1 z2 => ?_⟩
            · rw [upd_ne (ne_of_none z2 hp)]
              exact G.keep a u z1 z2
            · rw [upd_ne (ne_of_none z2 hp)]
              exact G.kin a u z1 z2
          · refine ⟨go4.nd, go4.dis, go4.len, fun a ha => ?_, fun j a es h1 h2 => ?_⟩
            · by_cases z : a = p
              · rw [z, upd_same]; exact Option.some_ne_none _
              · rw [upd_ne z]; exact go4.dom a ha
            · exact (go4.own j a es h1 h2).move (upd_ne (fun z => off4 (List.mem_append_right _ (by rw [← z]; exact List.mem_of_getElem? h1)))) (fun _ _ z => z) hk
          · exact (RpAll.mono (fun _ _ z => z) hk _ _ (g4.rps ra3)).append (.cons (Rp.mono (fun _ _ z => z) hk _ _ r4) .nil)
          · rw [List.length_append, List.length_singleton]; omega
          · rw [List.append_assoc]; exact hds
section
variable {X : Cx}
/-- the end of a comprehension: a list like others -/
theorem lc_done {K : PySem.W.Frag} {hid W' : List Addr} {st' : State} {H' : Hp} {p : Addr} {xs : List V} {ds : List D} (o : Good K (p :: hid) W' st' H') (off : p ∉ hid ++ W') (hp : H' p = some (.lst xs)) (r : RpAll K W' (hd ((p :: hid) ++ W') H') xs ds) :
    Good K hid W' st' H' ∧ Rp K W' (hd (hid ++ W') H') (.ref p) (.lst ds) := by
  refine ⟨⟨o.nd, fun a ha z => o.dis a ha (List.mem_cons_of_mem _ z), o.len, fun a ha => o.dom a (List.mem_cons_of_mem _ ha), fun j a es h1 h2 => ?_⟩, .lst (hd_some.mpr ⟨off, hp⟩) (RpAll.mono (fun _ _ z => z) hd_out _ _ r)⟩
  exact (o.own j a es h1 h2).move rfl (fun _ _ z => z) hd_out
variable {elt tg iter : Expr} {ifs : List Expr} {scope : Scope} {own : List (Str × Nat)} {pos : Pos} {src : MA} {us : List Nat} {g : MG} {t : MT} {me : ME}
theorem ev_lc {K : PySem.W.Frag} {wi : TI} {gg : TG} {tt : TT} {te : TE} {vs : List Nat} (hw : EvI K wi src) (hg : EvG K gg us g) (ht : EvT K tt t) (he : EvE K te me) (hs : ∀ j ∈ us, j ∈ vs) : EvE K (tLc wi gg tt te vs) (mLc src vs g t me) := by
  intro hid W st H ρ σ d st' o rs e Q q
  obtain ⟨⟨items, s1⟩, e1, e⟩ := Option.bind_eq_some_iff.mp e
  split at e
  · rename_i hf
    obtain ⟨⟨ds, s2⟩, e2, e3⟩ := Option.map_eq_some_iff.mp e
    cases e3
    refine lc_walk hw hg ht he hs o rs e1 hf e2 fun W' H' p xs G o' off _ hp r => ?_
    obtain ⟨o2, r2⟩ := lc_done o' off hp r
    exact q W' _ H' G o2 r2
  · cases e
/-! what holds in each block holds by one reading -/
abbrev Blk (X : Cx) (scope : Scope) (i : Shared × Hp × Addr × List (Str × Addr) × List Addr) : Cx := X.blk i.1 i.2.1 scope (compEnvC scope i.2.2.2.1 i.2.2.1 X.env) i.2.2.2.2
theorem blkE {e : Expr} {m : ME} (h : ∀ i, ED (Blk X scope i) e m) : ∃ te, (∀ i, PE (Blk X scope i) e te) ∧ EvE X.K te m :=
  ⟨fun σ H Q => ∀ i, Classical.choose (h i).ex σ H Q, fun i => ⟨fun pins s σ H Q I hq => (Classical.choose_spec (h i).ex).1.run pins s σ H Q I (hq i)⟩,
    fun hid W st H ρ σ d st' o rs e Q q i => (Classical.choose_spec (h i).ex).2 hid W st H ρ σ d st' o rs e Q q⟩
theorem blkT {ifs : List Expr} {m : MT} (h : ∀ i, TsD (Blk X scope i) ifs m) : ∃ tt, (∀ i, PTs (Blk X scope i) ifs tt) ∧ EvT X.K tt m :=
  ⟨fun σ H Q => ∀ i, Classical.choose (h i).ex σ H Q, fun i => ⟨fun pins s σ H Q I hq => (Classical.choose_spec (h i).ex).1.run pins s σ H Q I (hq i)⟩,
    fun hid W st H ρ σ d st' o rs e Q q i => (Classical.choose_spec (h i).ex).2 hid W st H ρ σ d st' o rs e Q q⟩
theorem blkG {tg : Expr} {m : MG} (h : ∀ i, GD (Blk X scope i) tg us m) : ∃ gg, (∀ i, PG (Blk X scope i) tg gg) ∧ EvG X.K gg us m :=
  ⟨fun v σ H Q => ∀ i, Classical.choose (h i).ex v σ H Q, fun i => ⟨fun pins s σ H v u Q I r hq => (Classical.choose_spec (h i).ex).1.run pins s σ H v u Q I r (hq i)⟩,
    fun hid W st H ρ σ v d ρ' o rs r e Q q i => (Classical.choose_spec (h i).ex).2 hid W st H ρ σ v d ρ' o rs r e Q q⟩
theorem d_lc {vs : List Nat} (hc : X.calm = true) (hN : X.N.Nodup) (hi : ID X tg iter src) (ok : BlkOk X.N X.env.scope scope own) (hg : ∀ i, GD (Blk X scope i) tg us g) (ht : ∀ i, TsD (Blk X scope i) ifs t) (he : ∀ i, ED (Blk X scope i) elt me) (hu : ∀ j ∈ us, j ∈ vs)
    (hs : ∀ x, foldedSetIterable iter X.env x = pure x := by intro _; rfl) (hv : own.map (·.2) = vs := by rfl) : ED X (.ListComp elt [⟨tg, iter, ifs, 0⟩] scope pos) (mLc src vs g t me) := by
  subst hv
  obtain ⟨_, p1, q1⟩ := hi.ex
  obtain ⟨_, p2, q2⟩ := blkG hg
  obtain ⟨_, p3, q3⟩ := blkT ht
  obtain ⟨_, p4, q4⟩ := blkE he
  exact ⟨_, pe_lc hc hN p1 ok (fun s H C cl fp => p2 (s, H, C, cl, fp)) (fun s H C cl fp => p3 (s, H, C, cl, fp)) (fun s H C cl fp => p4 (s, H, C, cl, fp)) hs, ev_lc q1 q2 q3 q4 hu⟩
end
/-! ## statements -/
def sNext : MS := fun _ ρ st => some (.next ρ, st)
def sSeq (a b : MS) : MS := fun n ρ st => (a n ρ st).bind fun p => match p.1 with
  | .next ρ' => b n ρ' p.2
  | o => some (o, p.2)
def sSet (i : Nat) (a : ME) : MS := fun _ ρ st => (a ρ st).map fun p => (.next (ρ.set i (some p.1)), p.2)
def sRet (a : ME) : MS := fun _ ρ st => (a ρ st).map fun p => (.ret p.1, p.2)
def sDrop (a : ME) : MS := fun _ ρ st => (a ρ st).map fun p => (.next ρ, p.2)
def sIf (t : MT) (a b : MS) : MS := fun n ρ st => (t ρ st).bind fun p => if p.1 = true then a n ρ p.2 else b n ρ p.2
def forM (g : MG) (b : MS) (n : Nat) : List D → Store → State → Option (Out × State)
  | [], ρ, st => some (.next ρ, st)
  | d :: r, ρ, st => (g d ρ).bind fun ρ2 => (b n ρ2 st).bind fun p => match p.1 with
    | .next ρ3 => forM g b n r ρ3 p.2
    | .cont ρ3 => forM g b n r ρ3 p.2
    | .brk ρ3 => some (.next ρ3, p.2)
    | .ret d => some (.ret d, p.2)
def sFor (src : MA) (g : MG) (b : MS) : MS := fun _ ρ st => (src ρ st).bind fun p => forM g b p.2.length p.1 ρ p.2
section
variable {K : PySem.W.Frag} {hid W0 W W' : List Addr} {H0 H H' : Hp} {E : Ends} {o : Out} {st' : State}
end
section
variable {X : Cx} {s : Stmt} {ss : List Stmt} {e c : Expr} {me : ME} {ms mr : MS} {mt : MT} {pos pos' : Pos}
theorem ss_nil : SsD X [] sNext := ⟨_, pss_nil, fun hid W0 H0 W st H ρ σ o st' G g rs e E q => by cases e; exact q W σ H G g rs⟩
theorem ss_one (h : SD X s ms) : SsD X [s] ms := let ⟨_, p1, q1⟩ := h.ex; ⟨_, pss_one p1, q1⟩
theorem ev_seq {K : PySem.W.Frag} {t u : TS} (h : EvS K t ms) (h2 : EvS K u mr) : EvS K (tSeq t u) (sSeq ms mr) := by
  intro hid W0 H0 W st H ρ σ o st' G g rs e E q
  obtain ⟨⟨o1, s1⟩, e1, e2⟩ := Option.bind_eq_some_iff.mp e
  refine h hid W0 H0 W st H ρ σ o1 s1 G g rs e1 { E with nx := u E } ?_
  cases o1 with
  | next ρ1 => exact fun W1 σ1 H1 G1 g1 rs1 => h2 hid W0 H0 W1 s1 H1 ρ1 σ1 o st' G1 g1 rs1 e2 E q
  | ret d => cases e2; exact q
  | brk ρ1 => cases e2; exact q
  | cont ρ1 => cases e2; exact q
theorem ss_cons (h : SD X s ms) (h2 : SsD X ss mr) : SsD X (s :: ss) (sSeq ms mr) :=
  let ⟨_, p1, q1⟩ := h.ex
  let ⟨_, p2, q2⟩ := h2.ex
  ⟨_, pss_cons p1 p2, ev_seq q1 q2⟩
theorem ev_set {K : PySem.W.Frag} {te : TE} (i : Nat) (h : EvE K te me) : EvS K (tAsg te (gName i)) (sSet i me) := by
  intro hid W0 H0 W st H ρ σ o st' G g rs e E q
  obtain ⟨⟨d, s1⟩, e1, e2⟩ := Option.map_eq_some_iff.mp e
  cases e2
  exact h hid W st H ρ σ d s1 g rs e1 _ fun W1 v1 H1 g1 o1 r1 => q W1 _ H1 (G.trans g1) o1 ((g1.rs rs).set r1 i)
theorem s_set {i : Nat} {x : Str} (hN : X.N.Nodup) (hi : X.N[i]? = some x) (hx : Loc X.env.scope x) (h : ED X e me) (hs : swapsWith e (some (.Name x pos')) pos.line X.env = pure false := by rfl) (hf : X.fn x = true ∨ X.env.scope.names.lookup x = some .local := by first | exact .inl rfl | exact .inr rfl | assumption) :
    SD X (.Assign [.Name x pos'] e pos) (sSet i me) := let ⟨_, p1, q1⟩ := h.ex; ⟨_, ps_set hN hi hx p1 hs hf, ev_set i q1⟩
theorem s_ret (h : ED X e me) : SD X (.Return (some e) pos) (sRet me) := by
  obtain ⟨_, p1, q1⟩ := h.ex
  refine ⟨_, ps_ret p1, ?_⟩
  intro hid W0 H0 W st H ρ σ o st' G g rs e E q
  obtain ⟨⟨d, s1⟩, e1, e2⟩ := Option.map_eq_some_iff.mp e
  cases e2
  exact q1 hid W st H ρ σ d s1 g rs e1 _ fun W1 v1 H1 g1 o1 r1 => q W1 v1 H1 (G.trans g1) o1 r1
theorem s_expr (h : ED X e me) (hs : swapsWith e none pos.line X.env = pure false := by rfl) : SD X (.Expr e pos) (sDrop me) := by
  obtain ⟨_, p1, q1⟩ := h.ex
  refine ⟨_, ps_expr p1 hs, ?_⟩
  intro hid W0 H0 W st H ρ σ o st' G g rs e E q
  obtain ⟨⟨d, s1⟩, e1, e2⟩ := Option.map_eq_some_iff.mp e
  cases e2
  exact q1 hid W st H ρ σ d s1 g rs e1 _ fun W1 v1 H1 g1 o1 r1 => q W1 σ H1 (G.trans g1) o1 (g1.rs rs)
theorem s_if {a b : List Stmt} {ma mb : MS} (hc : TD X c mt) (ha : SsD X a ma) (hb : SsD X b mb) : SD X (.If c a b pos) (sIf mt ma mb) := by
  obtain ⟨_, p0, q0⟩ := hc.ex
  obtain ⟨_, p1, q1⟩ := ha.ex
  obtain ⟨_, p2, q2⟩ := hb.ex
  refine ⟨_, ps_if p0 p1 p2, ?_⟩
  intro hid W0 H0 W st H ρ σ o st' G g rs e E q
  obtain ⟨⟨b, s1⟩, e1, e⟩ := Option.bind_eq_some_iff.mp e
  refine q0 hid W st H ρ σ b s1 g rs e1 _ fun W1 H1 g1 o1 => ?_
  cases b with
  | true =>
    rw [if_pos rfl] at e ⊢
    exact q1 hid W0 H0 W1 s1 H1 ρ σ o st' (G.trans g1) o1 (g1.rs rs) e E q
  | false =>
    rw [if_neg Bool.false_ne_true] at e ⊢
    exact q2 hid W0 H0 W1 s1 H1 ρ σ o st' (G.trans g1) o1 (g1.rs rs) e E q
/-- for .. in .. -/
theorem s_for {tg iter : Expr} {body : List Stmt} {src : MA} {us : List Nat} {g : MG} {mb : MS} (hp : PassesOwn (model X.prog X.w) X.A X.env X.xe) (hc : X.calm = true) (hi : ID X tg iter src) (hg : GD X tg us g) (hb : SsD X body mb)
    (hs : ∀ x, foldedSetIterable iter X.env x = pure x := by intro _; rfl) : SD X (.For tg iter body [] pos) (sFor src g mb) := by
  obtain ⟨_, p1, q1⟩ := hi.ex
  obtain ⟨_, p2, q2⟩ := hg.ex
  obtain ⟨_, p3, q3⟩ := hb.ex
  refine ⟨_, ps_for hp hc p1 p2 p3 hs, ?_⟩
  intro hid W0 H0 W st H ρ σ o st' G go rs e E q
  obtain ⟨⟨items, s1⟩, e1, e⟩ := Option.bind_eq_some_iff.mp e
  refine q1 hid W st H ρ σ items s1 go rs e1 _ fun W1 J H1 g1 o1 sr => ?_
  have hn : s1.length = W1.length := o1.len.symm
  have e' : forM g mb W1.length items ρ s1 = some (o, st') := by rw [← hn]; exact e
  refine ⟨fun i m σ' H' => ∃ W' s ρ', i + m = items.length ∧ Gr W1 H1 W' H' ∧ Good X.K hid W' s H' ∧ Rs X.K W' (hd (hid ++ W') H') ρ' σ' ∧ forM g mb W1.length (items.drop i) ρ' s = some (o, st'),
    ⟨items.length, W1, s1, ρ, by omega, Gr.refl, o1, g1.rs rs, by rw [List.drop_zero]; exact e'⟩, ?_⟩
  rintro i m σ' H' ⟨W', s, ρ', him, gr, gd, rs', hrun⟩
  cases hdr : items.drop i with
  | nil =>
    have hi : i = items.length := by
      have := congrArg List.length hdr
      rw [List.length_drop] at this
      have h0 : ([] : List D).length = 0 := rfl
      omega
    rw [hdr] at hrun
    cases hrun
    exact .inl ⟨by rw [hi]; exact sr.stop hid W' H' gr.hd gr.pre, q W' σ' H' (G.trans (g1.trans gr)) gd rs'⟩
  | cons d rest =>
    have hi : items[i]? = some d := by
      have := congrArg List.head? hdr
      rw [List.head?_drop] at this
      exact this
    have hrest : items.drop (i + 1) = rest := by
      have := congrArg List.tail hdr
      rw [List.tail_drop] at this
      exact this
    rw [hdr] at hrun
    obtain ⟨ρ2, eg, hrun⟩ := Option.bind_eq_some_iff.mp hrun
    obtain ⟨⟨ob, s2⟩, eb, hrun⟩ := Option.bind_eq_some_iff.mp hrun
    obtain ⟨hgo, hy⟩ := sr.step hid W' H' i d gr.hd gr.pre hi
    refine .inr ⟨hgo, fun σ'' H'' => ∃ W'' s ρ'', Gr W1 H1 W'' H'' ∧ Good X.K hid W'' s H'' ∧ Rs X.K W'' (hd (hid ++ W'') H'') ρ'' σ'' ∧ forM g mb W1.length rest ρ'' s = some (o, st'), ?_, ?_⟩
    · rintro σ'' H'' ⟨W'', s, ρ'', z1, z2, z3, z4⟩
      have hil : i < items.length := (List.getElem?_eq_some_iff.mp hi).1
      exact ⟨m - 1, by omega, W'', s, ρ'', by omega, z1, z2, z3, by rw [hrest]; exact z4⟩
    · intro x H2 hyx
      obtain ⟨ext, rx⟩ := hy x H2 hyx
      have gX : Gr W' H' W' H2 := ⟨fun _ _ z => z, fun _ z => .inl z, fun a u _ z => ext a u z, fun a u _ z => ⟨u, ext a u z, rfl⟩⟩
      have keepW : ∀ a ∈ W', H2 a = H' a := fun a ha => by
        obtain ⟨ys, e, _⟩ := gd.at ha
        rw [ext a _ e, e]
      have gd2 : Good X.K hid W' s H2 := gd.grow gX keepW
      have rv : Rp X.K W' (hd (hid ++ W') H2) x d := rx _ gX.hd fun a u z1 z2 => hd_some.mpr ⟨gd.off z1, z2⟩
      refine q2 hid W' s H2 ρ' σ' x d ρ2 gd2 (gX.rs rs') rv eg _ fun σ2 rs3 _ _ => ?_
      refine q3 hid W1 H1 W' s H2 ρ2 σ2 ob s2 (gr.trans gX) gd2 rs3 eb _ ?_
      cases ob with
      | next ρ3 => exact fun W3 σ3 H3 G3 g3 rs3 => ⟨W3, s2, ρ3, G3, g3, rs3, hrun⟩
      | cont ρ3 => exact fun W3 σ3 H3 G3 g3 rs3 => ⟨W3, s2, ρ3, G3, g3, rs3, hrun⟩
      | brk ρ3 => cases hrun; exact fun W3 σ3 H3 G3 g3 rs3 => q W3 σ3 H3 (G.trans (g1.trans G3)) g3 rs3
      | ret d => cases hrun; exact fun W3 v H3 G3 g3 r3 => q W3 v H3 (G.trans (g1.trans G3)) g3 r3
end
/-! ## stores into lists that are kept apart -/
def setD (st : State) (o i v : D) : Option State := match o, i with
  | .own j, .int k => (lat st j).bind fun ds => (ixN ds.length k).map fun x => st.set j (ds.set x v)
  | _, _ => none
theorem nodup_inj {W : List Addr} (h : W.Nodup) {i j : Nat} {a : Addr} (h1 : W[i]? = some a) (h2 : W[j]? = some a) : i = j := by
  obtain ⟨l1, e1⟩ := List.getElem?_eq_some_iff.mp h1
  obtain ⟨l2, e2⟩ := List.getElem?_eq_some_iff.mp h2
  rcases Nat.lt_trichotomy i j with q | q | q
  · exact absurd (e1.trans e2.symm) (List.pairwise_iff_getElem.mp h i j l1 l2 q)
  · exact q
  · exact absurd (e2.trans e1.symm) (List.pairwise_iff_getElem.mp h j i l2 l1 q)
theorem Good.store {K : PySem.W.Frag} {hid W : List Addr} {st : State} {H : Hp} (g : Good K hid W st H) {j : Nat} {a : Addr} {xs xs0 : List V} {ds : List D} (hj : W[j]? = some a) (hx : H a = some (.lst xs0)) (r : RpAll K W (hd (hid ++ W) H) xs ds) :
    Gr W H W (upd H a (.lst xs)) ∧ Good K hid W (st.set j ds) (upd H a (.lst xs)) ∧ ∀ b, hd (hid ++ W) (upd H a (.lst xs)) b = hd (hid ++ W) H b := by
  have ha : a ∈ W := List.mem_of_getElem? hj
  have hh : ∀ b, hd (hid ++ W) (upd H a (.lst xs)) b = hd (hid ++ W) H b := fun b => by
    unfold hd
    split
    · rfl
    · rename_i hb
      rw [upd_ne fun z => hb (by rw [z]; exact List.mem_append_right _ ha)]
  refine ⟨⟨fun _ _ e => e, fun _ h => .inl h, fun b o hb e => by rw [upd_ne fun z => hb (by rw [z]; exact ha)]; exact e, fun b o _ e => ?_⟩, ⟨g.nd, g.dis, by rw [List.length_set]; exact g.len, fun b hb => ?_, fun i b es h1 h2 => ?_⟩, hh⟩
  · by_cases z : b = a
    · subst z
      rw [hx] at e
      cases e
      exact ⟨_, upd_same, rfl⟩
    · exact ⟨o, by rw [upd_ne z]; exact e, rfl⟩
  · by_cases z : b = a
    · rw [z, upd_same]; exact Option.some_ne_none _
    · rw [upd_ne z]; exact g.dom b hb
  · have mono : ∀ c u, hd (hid ++ W) H c = some u → hd (hid ++ W) (upd H a (.lst xs)) c = some u := fun c u e => by rw [hh]; exact e
    by_cases hij : j = i
    · subst hij
      rw [hj] at h1
      cases h1
      have hl : j < st.length := by rw [← g.len]; exact (List.getElem?_eq_some_iff.mp hj).1
      rw [List.getElem?_set_self hl] at h2
      cases h2
      exact .lst upd_same (RpAll.mono (fun _ _ z => z) mono _ _ r)
    · rw [List.getElem?_set_ne hij] at h2
      refine (g.own i b es h1 h2).move (upd_ne fun z => ?_) (fun _ _ z => z) mono
      subst z
      exact hij (nodup_inj g.nd hj h1)
def sSetI (v o i : ME) : MS := fun _ ρ st => (v ρ st).bind fun p => (o ρ p.2).bind fun q => (i ρ q.2).bind fun r => (setD r.2 q.1 r.1 p.1).map fun s => (.next ρ, s)
section
variable {X : Cx} {o i e : Expr} {mo mi me : ME} {pos tpos : Pos}
/-- o[i] = e -/
theorem s_setI (he : ED X e me) (ho : ED X o mo) (hi : ED X i mi) (hs : swapsWithSole [.Subscript o i tpos] e pos.line X.env = pure false := by rfl) (hw : swappedStores [.Subscript o i tpos] e X.env = pure none := by rfl)
    (ha : ∀ v, assign (.Subscript o i tpos) X.env v = (do
      let ov ← holding [v] (eval o X.env)
      let iv ← holding [v, ov] (eval i X.env)
      standAt tpos
      holding [v, ov, iv] (setItem ov iv v)
      release [v, ov, iv] []) := by intro _; rfl)
    (h1 : (assignEach [.Subscript o i tpos] X.env).map (·.2) = [assign (.Subscript o i tpos) X.env] := by rfl) : SD X (.Assign [.Subscript o i tpos] e pos) (sSetI me mo mi) := by
  obtain ⟨_, p1, q1⟩ := he.ex
  obtain ⟨_, p2, q2⟩ := ho.ex
  obtain ⟨_, p3, q3⟩ := hi.ex
  refine ⟨_, ps_asg p1 (pg_sub p2 p3 set_list ha) hs hw h1, ?_⟩
  intro hid W0 H0 W st H ρ σ ou st' G g rs e E q
  obtain ⟨⟨x, s1⟩, e1, e⟩ := Option.bind_eq_some_iff.mp e
  obtain ⟨⟨y, s2⟩, e2, e⟩ := Option.bind_eq_some_iff.mp e
  obtain ⟨⟨z, s3⟩, e3, e⟩ := Option.bind_eq_some_iff.mp e
  obtain ⟨s4, e4, e5⟩ := Option.map_eq_some_iff.mp e
  cases e5
  refine q1 hid W st H ρ σ x s1 g rs e1 _ fun W1 v1 H1 g1 o1 r1 => ?_
  refine q2 hid W1 s1 H1 ρ σ y s2 o1 (g1.rs rs) e2 _ fun W2 v2 H2 g2 o2 r2 => ?_
  refine q3 hid W2 s2 H2 ρ σ z s3 o2 ((g1.trans g2).rs rs) e3 _ fun W3 v3 H3 g3 o3 r3 => ?_
  match y, r2, z, r3, e4 with
  | .own j, .own (a := a) hj, .int k, .int _, e4 =>
    obtain ⟨ds, h1, h2⟩ := Option.bind_eq_some_iff.mp e4
    obtain ⟨n, h3, h4⟩ := Option.map_eq_some_iff.mp h2
    subst h4
    have hj3 := g3.pre j a hj
    obtain ⟨xs, hx, rx⟩ := o3.lat hj3 h1
    obtain ⟨gS, oS, _⟩ := o3.store hj3 hx (rx.set n ((g2.trans g3).rp r1))
    exact ⟨a, xs, k, n, rfl, rfl, hx, by rw [rx.length]; exact h3, q W3 σ _ (G.trans (g1.trans (g2.trans (g3.trans gS)))) oS ((g1.trans (g2.trans (g3.trans gS))).rs rs)⟩
end
/-! ## defs -/
def fnM (n : Nat) (m : MS) : List D → State → Option (D × State) := fun ds st => match m st.length (ds.map some ++ List.replicate (n - ds.length) none) st with
  | some (.ret d, st') => some (d, st')
  | some (.next _, st') => some (.non, st')
  | _ => none
/-- the promise of a def by its mirror -/
def spM (K : PySem.W.Frag) (n : Nat) (fm : List D → State → Option (D × State)) : Sp := fun vs H Q _ => ∃ (hid W : List Addr) (st : State) (ds : List D) (d : D) (st' : State), Good K hid W st H ∧ RpAll K W (hd (hid ++ W) H) vs ds ∧ vs.length = n ∧ fm ds st = some (d, st') ∧
  ∀ W' v H', Gr W H W' H' → Good K hid W' st' H' → Rp K W' (hd (hid ++ W') H') v d → Q v H'
section
variable {P : Program} {w : World} {K : PySem.W.Frag} {mg : Str → Option Value} {base : Heap} {k : Nat} {f : Addr} {fd : FuncData} {ps N : List Str} {x qual : Str} {st : Stmt} {m : MS}
theorem rps_start {W : List Addr} {h : Hp} {vs : List V} {ds : List D} (r : RpAll K W h vs ds) (n : Nat) : Rs K W h (ds.map some ++ List.replicate (n - ds.length) none) (vs.map some ++ List.replicate (n - vs.length) none) := by
  have hl := r.length
  refine ⟨by rw [List.length_append, List.length_append, List.length_map, List.length_map, hl]; simp, fun i d e => ?_⟩
  by_cases hi : i < ds.length
  · rw [List.getElem?_append_left (by rw [List.length_map]; exact hi), List.getElem?_map] at e
    obtain ⟨d', h1, h2⟩ := Option.map_eq_some_iff.mp e
    cases h2
    obtain ⟨v, hv, rv⟩ := r.get h1
    exact ⟨v, by rw [List.getElem?_append_left (by rw [List.length_map, hl]; exact hi), List.getElem?_map, hv]; rfl, rv⟩
  · rw [List.getElem?_append_right (by rw [List.length_map]; omega)] at e
    rw [List.getElem?_replicate] at e
    split at e <;> cases e
theorem fn_D (F : Fun K x qual st f fd) (S : FnScope N ps (defScope st))
    (hb : ∀ (cdv : Value) (A : Around) (outer : List Env) (s : Shared) (H : Hp) (E : XK), Room k (A.deeper (envOfC qual (defScope st) s.heap.objs.size f cdv)) → A.guards = some [] → SsD (cxOf CX0 P w K mg base N qual (defScope st) f cdv A outer s H E).nox (defBody st) m) :
    FnG P w K mg base (k + 1) f fd ps (spM K ps.length (fnM N.length m)) := by
  refine okG F S (fun vs H Q E h => ?_) fun cdv A outer s H vs Q E hr gd hsp => ?_
  · obtain ⟨_, _, _, _, _, _, _, _, h, _⟩ := h
    exact h
  · obtain ⟨hid, W, stt, ds, d, st', g, r, hl, e, q⟩ := hsp
    obtain ⟨t, p1, q1⟩ := (hb cdv A outer s H E hr gd).ex
    refine ⟨t, p1, ?_⟩
    unfold fnM at e
    rw [← g.len] at e
    have rs := rps_start r N.length
    cases hrun : m W.length (ds.map some ++ List.replicate (N.length - ds.length) none) stt with
    | none => rw [hrun] at e; cases e
    | some p =>
      obtain ⟨o, s'⟩ := p
      rw [hrun] at e
      refine q1 hid W H W stt H _ (start N vs) o s' Gr.refl g rs hrun _ ?_
      cases o with
      | next ρ => cases e; exact fun W' σ' H' G g' _ => q W' .non H' G g' .non
      | ret d => cases e; exact fun W' v H' G g' r' => q W' v H' G g' r'
      | brk ρ => cases e
      | cont ρ => cases e
end
/-- a call of such a def -/
def mCallN (n : Nat) (f : List D → State → Option (D × State)) (a : MA) : ME := fun ρ st => (a ρ st).bind fun p => if p.1.length = n then f p.1 p.2 else none
section
variable {X : Cx} {k : Nat} {f : Addr} {fd : FuncData} {ps : List Str} {n : Nat} {fm : List D → State → Option (D × State)} {x : Str} {p pos : Pos} {e : Expr} {es : List Expr} {mA : MA}
theorem d_call (F : FnG X.prog X.w X.K X.mg X.base k f fd ps (spM X.K n fm)) (hr : Room k X.A) (gd : X.A.guards = some []) (hg : Gl X x) (hm : X.mg x = some (.ref f)) (hk : PySem.W.keepIn X.K (.ref f) = true) (hb : Binds X.K fd ps [])
    (ha : AD X (e :: es) mA) (hdb : (x == ("__debug__" : Str)) = false := by decide) (he : starEach (e :: es) X.env = (false, eval e X.env) :: starEach es X.env := by rfl) (hpl : (backTo pos (starEach es X.env)).any (·.1) = false := by rfl) :
    ED X (.Call (.Name x p) (e :: es) [] pos) (mCallN n fm mA) := by
  obtain ⟨_, p1, q1⟩ := ha.ex
  refine ⟨_, pe_callG F hr gd hg hm hk hb p1 hdb he hpl, ?_⟩
  intro hid W st H ρ σ d st' g rs e Q q
  obtain ⟨⟨ds, s1⟩, e1, e⟩ := Option.bind_eq_some_iff.mp e
  refine q1 hid W st H ρ σ ds s1 g rs e1 _ fun W1 vs H1 g1 o1 r1 => ?_
  split at e
  · rename_i hl
    exact ⟨hid, W1, s1, ds, d, st', o1, r1, by rw [r1.length]; exact hl, e, fun W' v H' G g' r' => q W' v H' (g1.trans G) g' r'⟩
  · cases e
end
/-! ## data as the library's data -/
mutual
def D.py : D → PyData
  | .non => .none
  | .bl b => .bool b
  | .int i => .int i
  | .str x => .str x
  | .lst xs => .list (D.pys xs)
  | .tup xs => .tuple (D.pys xs)
  | .dct _ _ => .none
  | .own _ => .none
  | .ref _ => .none
  | .ty _ => .none
  | .exn _ => .none
  | .scr _ => .none
  | .ins _ _ _ => .none
  | .exc _ _ _ _ => .none
  | .exv _ _ _ => .none
def D.pys : List D → List PyData
  | [] => []
  | d :: ds => d.py :: D.pys ds
end
mutual
/-- texts, numbers, truths, None, lists and tuples of such -/
def D.plain : D → Bool
  | .non => true
  | .bl _ => true
  | .int _ => true
  | .str _ => true
  | .lst xs => D.plains xs
  | .tup xs => D.plains xs
  | .dct _ _ => false
  | .own _ => false
  | .ref _ => false
  | .ty _ => false
  | .exn _ => false
  | .scr _ => false
  | .ins _ _ _ => false
  | .exc _ _ _ _ => false
  | .exv _ _ _ => false
def D.plains : List D → Bool
  | [] => true
  | d :: ds => d.plain && D.plains ds
end
mutual
theorem Rp.dp {K : PySem.W.Frag} {W : List Addr} {h H : Hp} (hh : ∀ a o, h a = some o → H a = some o) : ∀ (d : D) (v : V), d.plain = true → Rp K W h v d → Dp K H v d.py
  | .non, _, _, .non => .non
  | .bl _, _, _, .bl b => .bl b
  | .int _, _, _, .int b => .int b
  | .str _, _, _, .str b => .str b
  | .lst ds, _, p, .lst h1 h2 => .lst (SqL.of (hh _ _ h1)) (RpAll.dp hh ds _ p h2)
  | .tup ds, _, p, .tup h1 h2 => .tup (Evl.ex_t hh h1) (RpAll.dp hh ds _ p h2)
theorem RpAll.dp {K : PySem.W.Frag} {W : List Addr} {h H : Hp} (hh : ∀ a o, h a = some o → H a = some o) : ∀ (ds : List D) (vs : List V), D.plains ds = true → RpAll K W h vs ds → DpAll K H vs (D.pys ds)
  | [], _, _, .nil => .nil
  | d :: ds, _, p, .cons h1 h2 => .cons (Rp.dp hh d _ (Bool.and_eq_true_iff.mp p).1 h1) (RpAll.dp hh ds _ (Bool.and_eq_true_iff.mp p).2 h2)
end
section
variable {K : PySem.W.Frag} {X : Cx}
/-! ## numbers -/
def intI (f : Int → Int → Option D) : State → D → D → Option D := fun _ a b => match a, b with
  | .int i, .int j => f i j
  | _, _ => none
theorem r2_rI0 {g : Int → Int → V} {f : Int → Int → D} (h : ∀ i j W hh, Rp K W hh (g i j) (f i j)) : R2O K (rI0 g) (intI fun i j => some (f i j)) := by
  intro hid W st H x y a b d go r1 r2 e Q q
  match a, r1, b, r2, e with
  | .int i, .int _, .int j, .int _, e =>
    cases e
    exact ⟨i, j, rfl, rfl, q _ H Gr.refl go (h i j _ _)⟩
theorem r2_rI {C : Int → Int → Prop} {c : Int → Int → Bool} {g : Int → Int → V} {f : Int → Int → D} (hc : ∀ i j, c i j = true → C i j) (h : ∀ i j W hh, Rp K W hh (g i j) (f i j)) : R2O K (rI C g) (intI fun i j => if c i j = true then some (f i j) else none) := by
  intro hid W st H x y a b d go r1 r2 e Q q
  match a, r1, b, r2, e with
  | .int i, .int _, .int j, .int _, e =>
    have e' : (if c i j = true then some (f i j) else none) = some d := e
    split at e'
    · rename_i h1
      cases e'
      exact ⟨i, j, rfl, rfl, hc i j h1, q _ H Gr.refl go (h i j _ _)⟩
    · cases e'
def addI := intI fun i j => some (.int (i + j))
def subI := intI fun i j => some (.int (i - j))
def mulI := intI fun i j => if (decide (-(2 ^ 64) < i) && decide (i < 2 ^ 64)) || (decide (-(2 ^ 64) < j) && decide (j < 2 ^ 64)) then some (.int (i * j)) else none
def modI := intI fun i j => if decide (0 < j) then some (.int (i % j)) else none
def divI := intI fun i j => if decide (0 < j) && decide (j < 1073741824) then some (.int (i / j)) else none
def powI := intI fun i j => if decide (0 ≤ j) && decide (j ≤ 1000000) && decide (i.natAbs < 2 ^ 64) then some (.int (i ^ j.toNat)) else none
def ltI := intI fun i j => some (.bl (decide (i < j)))
def gtI := intI fun i j => some (.bl (decide (j < i)))
def geI := intI fun i j => some (.bl (decide (j ≤ i)))
theorem r2_add : R2O K (rI0 fun i j => .int (i + j)) addI := r2_rI0 fun _ _ _ _ => .int _
theorem r2_sub : R2O K (rI0 fun i j => .int (i - j)) subI := r2_rI0 fun _ _ _ _ => .int _
theorem r2_lt : R2O K (rI0 fun i j => .bl (decide (i < j))) ltI := r2_rI0 fun _ _ _ _ => .bl _
theorem r2_gt : R2O K (rI0 fun i j => .bl (decide (j < i))) gtI := r2_rI0 fun _ _ _ _ => .bl _
theorem r2_ge : R2O K (rI0 fun i j => .bl (decide (j ≤ i))) geI := r2_rI0 fun _ _ _ _ => .bl _
theorem r2_mul : R2O K (rI CMul fun i j => .int (i * j)) mulI := r2_rI (fun i j h => by
  simp only [Bool.or_eq_true, Bool.and_eq_true, decide_eq_true_eq] at h
  exact h) fun _ _ _ _ => .int _
theorem r2_mod : R2O K (rI (fun _ j => 0 < j) fun i j => .int (i % j)) modI := r2_rI (fun i j h => of_decide_eq_true h) fun _ _ _ _ => .int _
theorem r2_div : R2O K (rI CDiv fun i j => .int (i / j)) divI := r2_rI (fun i j h => by
  simp only [Bool.and_eq_true, decide_eq_true_eq] at h
  exact h) fun _ _ _ _ => .int _
theorem r2_pow : R2O K (rI CPow fun i j => .int (i ^ j.toNat)) powI := r2_rI (fun i j h => by
  simp only [Bool.and_eq_true, decide_eq_true_eq] at h
  exact ⟨h.1.1, h.1.2, h.2⟩) fun _ _ _ _ => .int _
/-! ## texts in order -/
def strS (f : Str → Str → D) : State → D → D → Option D := fun _ a b => match a, b with
  | .str i, .str j => some (f i j)
  | _, _ => none
def ltS := strS fun i j => .bl (decide (i.cps.toList < j.cps.toList))
theorem r2_ltS : R2O K (fun x y H Q => ∃ i j, x = .str i ∧ y = .str j ∧ Q (.bl (decide (i.cps.toList < j.cps.toList))) H) ltS := by
  intro hid W st H x y a b d go r1 r2 e Q q
  match a, r1, b, r2, e with
  | .str i, .str _, .str j, .str _, e =>
    cases e
    exact ⟨i, j, rfl, rfl, q _ H Gr.refl go (.bl _)⟩
/-! ## == of data -/
def eqD : State → D → D → Option D := fun _ a b => if a.plain && b.plain && SeqAt.shaped a.py && SeqAt.shaped b.py then some (.bl (PyData.eqv a.py b.py)) else none
def neD : State → D → D → Option D := fun _ a b => if a.plain && b.plain && SeqAt.shaped a.py && SeqAt.shaped b.py then some (.bl (!PyData.eqv a.py b.py)) else none
theorem r2_eq : R2O K (rEqD K) eqD := by
  intro hid W st H x y a b d go r1 r2 e Q q
  unfold eqD at e
  split at e
  · rename_i h
    simp only [Bool.and_eq_true] at h
    cases e
    exact ⟨a.py, b.py, Rp.dp hd_sub a x h.1.1.1 r1, Rp.dp hd_sub b y h.1.1.2 r2, h.1.2, h.2, q _ H Gr.refl go (.bl _)⟩
  · cases e
theorem r2_ne : R2O K (rNeD K) neD := by
  intro hid W st H x y a b d go r1 r2 e Q q
  unfold neD at e
  split at e
  · rename_i h
    simp only [Bool.and_eq_true] at h
    cases e
    exact ⟨a.py, b.py, Rp.dp hd_sub a x h.1.1.1 r1, Rp.dp hd_sub b y h.1.1.2 r2, h.1.2, h.2, q _ H Gr.refl go (.bl _)⟩
  · cases e
/-! ## one sign in a text -/
def inSD (neg : Bool) : State → D → D → Option D := fun _ a b => match a, b with
  | .str x, .str z => match x.cps.toList with
    | [c] => some (.bl (if neg then !decide (c ∈ z.cps.toList) else decide (c ∈ z.cps.toList)))
    | _ => none
  | _, _ => none
theorem str_one {x : Str} {c : Nat} (h : x.cps.toList = [c]) : x = ⟨#[c]⟩ := by
  obtain ⟨⟨l⟩⟩ := x
  cases (show l = [c] from h)
  rfl
theorem r2_inS : R2O K (fun x y H Q => ∃ (c : Nat) (z : Str), x = .str ⟨#[c]⟩ ∧ y = .str z ∧ Q (.bl (decide (c ∈ z.cps.toList))) H) (inSD false) := by
  intro hid W st H x y a b d go r1 r2 e Q q
  match a, r1, b, r2, e with
  | .str i, .str _, .str j, .str _, e =>
    unfold inSD at e
    simp only at e
    split at e
    · rename_i c hc
      cases e
      exact ⟨c, j, by rw [str_one hc], rfl, q _ H Gr.refl go (.bl _)⟩
    · cases e
/-! ## items -/
def ixD : State → D → D → Option D := fun st a b => match b with
  | .int i => match a with
    | .lst ds => atI ds i
    | .tup ds => atI ds i
    | .own j => (lat st j).bind fun ds => atI ds i
    | .str x => if few x.length = true then (atI x.cps.toList i).map fun c => .str ⟨#[c]⟩ else none
    | _ => none
  | _ => none
theorem atI_rp {W : List Addr} {h : Hp} {vs : List V} {ds : List D} {i : Int} {d : D} (r : RpAll K W h vs ds) (e : atI ds i = some d) : ∃ v, atI vs i = some v ∧ Rp K W h v d := by
  unfold atI at e ⊢
  obtain ⟨j, e1, e2⟩ := Option.bind_eq_some_iff.mp e
  obtain ⟨v, h1, h2⟩ := r.get e2
  exact ⟨v, by rw [r.length, e1]; exact h1, h2⟩
theorem r2_ix : R2O K (rIx K) ixD := by
  intro hid W st H x y a b d go r1 r2 e Q q
  match b, r2, e with
  | .int i, .int _, e =>
    match a, r1, e with
    | .lst ds, .lst (a := p) (xs := xs) h1 h2, e =>
      obtain ⟨v, hv, rv⟩ := atI_rp h2 e
      exact .inl ⟨p, xs, i, v, rfl, rfl, SqL.of (hd_sub _ _ h1), hv, q _ H Gr.refl go rv⟩
    | .tup ds, .tup (a := p) (xs := xs) h1 h2, e =>
      obtain ⟨v, hv, rv⟩ := atI_rp h2 e
      exact .inr (.inl ⟨p, xs, i, v, rfl, rfl, Evl.ex_t hd_sub h1, hv, q _ H Gr.refl go rv⟩)
    | .own j, .own (a := p) hj, e =>
      obtain ⟨ds, e1, e2⟩ := Option.bind_eq_some_iff.mp e
      obtain ⟨xs, hx, rx⟩ := go.lat hj e1
      obtain ⟨v, hv, rv⟩ := atI_rp rx e2
      exact .inl ⟨p, xs, i, v, rfl, rfl, SqL.of hx, hv, q _ H Gr.refl go rv⟩
    | .str z, .str _, e =>
      have e' : (if few z.length = true then (atI z.cps.toList i).map fun c => D.str ⟨#[c]⟩ else none) = some d := e
      split at e'
      · rename_i hf
        obtain ⟨c, e1, e2⟩ := Option.map_eq_some_iff.mp e'
        subst e2
        exact .inr (.inr ⟨z, i, c, rfl, rfl, few_le hf, e1, q _ H Gr.refl go (.str _)⟩)
      · cases e'
/-! ## + of texts, lists, tuples -/
def addS : State → D → D → Option D := fun _ a b => match a, b with
  | .str i, .str j => if few (i.length + j.length) = true then some (.str (i ++ j)) else none
  | _, _ => none
theorem r2_addS : R2O K (fun x y H Q => ∃ i j, x = .str i ∧ y = .str j ∧ i.length + j.length ≤ sizeLine ∧ Q (.str (i ++ j)) H) addS := by
  intro hid W st H x y a b d go r1 r2 e Q q
  match a, r1, b, r2, e with
  | .str i, .str _, .str j, .str _, e =>
    have e' : (if few (i.length + j.length) = true then some (D.str (i ++ j)) else none) = some d := e
    split at e'
    · rename_i hf
      cases e'
      exact ⟨i, j, rfl, rfl, few_le hf, q _ H Gr.refl go (.str _)⟩
    · cases e'
def addL : State → D → D → Option D := fun st a b => match a, b with
  | .lst i, .lst j => if few (i.length + j.length) = true then some (.lst (i ++ j)) else none
  | .own n, .lst j => (lat st n).bind fun i => if few (i.length + j.length) = true then some (.lst (i ++ j)) else none
  | .lst i, .own n => (lat st n).bind fun j => if few (i.length + j.length) = true then some (.lst (i ++ j)) else none
  | _, _ => none
theorem r2_addL : R2O K rCat addL := by
  intro hid W st H x y a b d go r1 r2 e Q q
  match a, r1, b, r2, e with
  | .lst i, .lst h1 h2, .lst j, .lst h3 h4, e =>
    have e' : (if few (i.length + j.length) = true then some (D.lst (i ++ j)) else none) = some d := e
    split at e'
    · rename_i hf
      cases e'
      exact ⟨_, _, _, _, rfl, rfl, hd_sub _ _ h1, hd_sub _ _ h3, by rw [h2.length, h4.length]; exact few_le hf, fun p hp => q _ _ (Gr.new1 hp) (go.new1 hp) (go.lst1 hp (h2.append h4))⟩
    · cases e'
  | .own n, .own (a := p0) hj, .lst j, .lst h3 h4, e =>
    obtain ⟨i, e1, e'⟩ := Option.bind_eq_some_iff.mp (show (lat st n).bind (fun i => if few (i.length + j.length) = true then some (D.lst (i ++ j)) else none) = some d from e)
    obtain ⟨xs, hx, rx⟩ := go.lat hj e1
    split at e'
    · rename_i hf
      cases e'
      exact ⟨_, _, _, _, rfl, rfl, hx, hd_sub _ _ h3, by rw [rx.length, h4.length]; exact few_le hf, fun p hp => q _ _ (Gr.new1 hp) (go.new1 hp) (go.lst1 hp (rx.append h4))⟩
    · cases e'
  | .lst i, .lst h1 h2, .own n, .own (a := p0) hj, e =>
    obtain ⟨j, e1, e'⟩ := Option.bind_eq_some_iff.mp (show (lat st n).bind (fun j => if few (i.length + j.length) = true then some (D.lst (i ++ j)) else none) = some d from e)
    obtain ⟨xs, hx, rx⟩ := go.lat hj e1
    split at e'
    · rename_i hf
      cases e'
      exact ⟨_, _, _, _, rfl, rfl, hd_sub _ _ h1, hx, by rw [h2.length, rx.length]; exact few_le hf, fun p hp => q _ _ (Gr.new1 hp) (go.new1 hp) (go.lst1 hp (h2.append rx))⟩
    · cases e'
def addT : State → D → D → Option D := fun _ a b => match a, b with
  | .tup i, .tup j => if few (i.length + j.length) = true then some (.tup (i ++ j)) else none
  | _, _ => none
theorem r2_addT : R2O K (rCatA K) addT := by
  intro hid W st H x y a b d go r1 r2 e Q q
  match a, r1, b, r2, e with
  | .tup i, .tup h1 h2, .tup j, .tup h3 h4, e =>
    have e' : (if few (i.length + j.length) = true then some (D.tup (i ++ j)) else none) = some d := e
    split at e'
    · rename_i hf
      cases e'
      refine ⟨_, _, _, _, rfl, rfl, Evl.ex_t hd_sub h1, Evl.ex_t hd_sub h3, by rw [h2.length, h4.length]; exact few_le hf, fun z => ?_, fun _ z => ?_, fun _ _ p hp => q _ _ (Gr.new1 hp) (go.new1 hp) (go.tup1 hp (h2.append h4))⟩
      · subst z
        cases h2
        exact q _ H Gr.refl go (.tup h3 h4)
      · subst z
        cases h4
        rw [List.append_nil] at q
        exact q _ H Gr.refl go (.tup h1 h2)
    · cases e'
/-! ## text * number, list * number -/
end
section
variable {K : PySem.W.Frag} {X : Cx}
/-! ## text * number -/
def timesS (z : Str) (n : Nat) : Str := ⟨(List.replicate n z.cps.toList).flatten.toArray⟩
theorem foldl_cat (a : Array Nat) : ∀ (n : Nat) (acc : Array Nat), ((List.replicate n a).foldl (· ++ ·) acc) = (acc.toList ++ (List.replicate n a.toList).flatten).toArray
  | 0, acc => by simp
  | n + 1, acc => by
    rw [List.replicate_succ, List.foldl_cons, foldl_cat a n, List.replicate_succ, List.flatten_cons, Array.toList_append, List.append_assoc]
theorem flat_nil : ∀ n : Nat, (List.replicate n ([] : List Nat)).flatten = []
  | 0 => rfl
  | n + 1 => by rw [List.replicate_succ, List.flatten_cons, flat_nil n]; rfl
def mulSD : State → D → D → Option D := fun _ a b => match a, b with
  | .str z, .int n => if few (z.length * n.toNat) = true ∧ -1000000 ≤ n ∧ n ≤ 1000000 then some (.str (timesS z n.toNat)) else none
  | _, _ => none
def rTimes : R2 := fun x y H Q => ∃ z n, x = .str z ∧ y = .int n ∧ z.length * n.toNat ≤ 1000000 ∧ -1000000 ≤ n ∧ n ≤ 1000000 ∧ Q (.str (timesS z n.toNat)) H
theorem op_times : OpR X (binaryOp .Mult) rTimes := by
  intro pins s σ H x y v u Q I rx ry h
  obtain ⟨z, n, rfl, rfl, hz, h1, h2, q⟩ := h
  obtain ⟨t, rfl⟩ := rx
  obtain ⟨t2, rfl⟩ := ry
  refine PySem.P.mul_str ?_ (fun h3 h4 => ?_) (fun h3 h4 => ?_) ?_
  · rw [decide_eq_false (by omega), decide_eq_false (by omega)]; rfl
  · have hn : (1 : Int) ≤ n := by omega
    have hl : (z.length : Int) ≤ 1000000 := by
      have h5 : z.length * 1 ≤ z.length * n.toNat := Nat.mul_le_mul_left _ (by omega)
      omega
    have hq : (1000001 : Int) ≤ (2 ^ 63 - 1) / n := by
      rw [Int.le_ediv_iff_mul_le (by omega)]
      omega
    omega
  · unfold Builtin.Str.tooLong
    refine decide_eq_false ?_
    have : (1000000 : Nat) < sizeLine := by decide
    omega
  · by_cases hn : n < 1
    · rw [if_pos hn]
      have e : timesS z n.toNat = Str.empty := by
        have : n.toNat = 0 := by omega
        rw [this]; rfl
      rw [e] at q
      exact ⟨by decide, .str _, H, I.tok _, ⟨_, rfl⟩, q⟩
    · rw [if_neg hn]
      by_cases h5 : (n == 1 || z.length == 0) = true
      · rw [if_pos h5]
        have e : timesS z n.toNat = z := by
          rcases Bool.or_eq_true_iff.mp h5 with h6 | h6
          · have h7 : n = 1 := by simpa using h6
            subst h7
            unfold timesS
            show Str.mk ((z.cps.toList ++ []).toArray) = z
            rw [List.append_nil, Array.toArray_toList]
          · have h7 : z.cps = #[] := by
              have h8 : z.length = 0 := by simpa using h6
              have h9 : z.cps.size = 0 := h8
              exact Array.eq_empty_of_size_eq_zero h9
            unfold timesS
            obtain ⟨c⟩ := z
            cases (show c = #[] from h7)
            show Str.mk (List.toArray (List.replicate n.toNat []).flatten) = _
            rw [flat_nil]
        rw [e] at q
        exact ⟨.str z, H, I, ⟨_, rfl⟩, q⟩
      · rw [if_neg h5]
        have e : Str.mk ((List.replicate n.toNat z.cps).foldl (· ++ ·) #[]) = timesS z n.toNat := by
          rw [foldl_cat]; rfl
        rw [e]
        have hlen : (timesS z n.toNat).length ≤ sizeLine := by
          show (List.toArray _).size ≤ _
          rw [List.size_toArray, List.length_flatten, List.map_replicate, List.sum_replicate_nat, Array.length_toList]
          have h8 : n.toNat * z.cps.size = z.length * n.toNat := Nat.mul_comm _ _
          have : (1000000 : Nat) < sizeLine := by decide
          omega
        exact ⟨hlen, .str _, H, I.tok _, ⟨_, rfl⟩, q⟩
theorem r2_times : R2O K rTimes mulSD := by
  intro hid W st H x y a b d go r1 r2 e Q q
  match a, r1, b, r2, e with
  | .str z, .str _, .int n, .int _, e =>
    have e' : (if few (z.length * n.toNat) = true ∧ -1000000 ≤ n ∧ n ≤ 1000000 then some (D.str (timesS z n.toNat)) else none) = some d := e
    split at e'
    · rename_i h
      cases e'
      exact ⟨z, n, rfl, rfl, of_decide_eq_true h.1, h.2.1, h.2.2, q _ H Gr.refl go (.str _)⟩
    · cases e'
/-! ## list * number -/
def mulLD : State → D → D → Option D := fun _ a b => match a, b with
  | .lst ds, .int n => if few (ds.length * n.toNat) = true ∧ -1000000 ≤ n ∧ n ≤ 1000000 then some (.lst (List.replicate n.toNat ds).flatten) else none
  | _, _ => none
theorem RpAll.times {W : List Addr} {h : Hp} {vs : List V} {ds : List D} (r : RpAll K W h vs ds) : ∀ n : Nat, RpAll K W h (List.replicate n vs).flatten (List.replicate n ds).flatten
  | 0 => .nil
  | n + 1 => by
    rw [List.replicate_succ, List.flatten_cons, List.replicate_succ, List.flatten_cons]
    exact r.append (r.times n)
theorem r2_mulL : R2O K rRep mulLD := by
  intro hid W st H x y a b d go r1 r2 e Q q
  match a, r1, b, r2, e with
  | .lst ds, .lst h1 h2, .int n, .int _, e =>
    have e' : (if few (ds.length * n.toNat) = true ∧ -1000000 ≤ n ∧ n ≤ 1000000 then some (D.lst (List.replicate n.toNat ds).flatten) else none) = some d := e
    split at e'
    · rename_i h
      cases e'
      exact ⟨_, n, _, rfl, rfl, hd_sub _ _ h1, by omega, by omega, by rw [h2.length]; exact few_le h.1, fun p hp => q _ _ (Gr.new1 hp) (go.new1 hp) (go.lst1 hp (h2.times n.toNat))⟩
    · cases e'
/-! ## slices -/
def cutD (ds : List D) (lo hi : Option Int) : List D := (ds.drop (HT.sIx ds.length 0 lo)).take (HT.sIx ds.length ds.length hi - HT.sIx ds.length 0 lo)
theorem RpAll.cut {W : List Addr} {h : Hp} {vs : List V} {ds : List D} (r : RpAll K W h vs ds) (lo hi : Option Int) : RpAll K W h (cutV vs lo hi) (cutD ds lo hi) := by
  unfold cutV cutD
  rw [r.length]
  exact (r.drop _).take _
def slLD : State → D → Option Int → Option Int → Option D := fun st a lo hi => match a with
  | .lst ds => some (.lst (cutD ds lo hi))
  | .own j => (lat st j).map fun ds => .lst (cutD ds lo hi)
  | .scr ns => some (.lst (cutD (ns.map .int) lo hi))
  | _ => none
theorem rps_ints {W : List Addr} {h : Hp} : ∀ ys : List Int, RpAll K W h (ys.map V.int) (ys.map D.int)
  | [] => .nil
  | y :: ys => .cons (.int y) (rps_ints ys)
theorem rs_list : RSO K (rSlL K) slLD := by
  intro hid W st H x a lo hi d go r1 e Q q
  match a, r1, e with
  | .lst ds, .lst h1 h2, e =>
    cases e
    exact ⟨_, _, rfl, SqL.of (hd_sub _ _ h1), fun p hp => q _ _ (Gr.new1 hp) (go.new1 hp) (go.lst1 hp (h2.cut lo hi))⟩
  | .own j, .own (a := p0) hj, e =>
    obtain ⟨ds, e1, e2⟩ := Option.map_eq_some_iff.mp e
    subst e2
    obtain ⟨xs, hx, rx⟩ := go.lat hj e1
    exact ⟨_, _, rfl, SqL.of hx, fun p hp => q _ _ (Gr.new1 hp) (go.new1 hp) (go.lst1 hp (rx.cut lo hi))⟩
  | .scr ns, .scr h1, e =>
    cases e
    exact ⟨_, _, rfl, Evl.ex_l hd_sub h1, fun p hp => q _ _ (Gr.new1 hp) (go.new1 hp) (go.lst1 hp ((rps_ints ns).cut lo hi))⟩
def slSD : State → D → Option Int → Option Int → Option D := fun _ a lo hi => match a with
  | .str z => if few z.length = true then some (.str (cutS z lo hi)) else none
  | _ => none
theorem rs_str : RSO K rSlS slSD := by
  intro hid W st H x a lo hi d go r1 e Q q
  match a, r1, e with
  | .str z, .str _, e =>
    have e' : (if few z.length = true then some (D.str (cutS z lo hi)) else none) = some d := e
    split at e'
    · rename_i h
      cases e'
      exact ⟨z, rfl, few_le h, q _ H Gr.refl go (.str _)⟩
    · cases e'
def slTD : State → D → Option Int → Option Int → Option D := fun _ a lo hi => match a with
  | .tup ds => some (.tup (cutD ds lo hi))
  | _ => none
theorem rs_tup : RSO K (rSlA K) slTD := by
  intro hid W st H x a lo hi d go r1 e Q q
  match a, r1, e with
  | .tup ds, .tup (xs := xs) h1 h2, e =>
    cases e
    refine ⟨_, _, rfl, Evl.ex_t hd_sub h1, fun z => ?_, fun _ p hp => q _ _ (Gr.new1 hp) (go.new1 hp) (go.tup1 hp (h2.cut lo hi))⟩
    have hc : cutD ds lo hi = ds := by
      unfold cutD
      rw [h2.length] at z
      rw [z.1, z.2]
      simp
    rw [hc] at q
    exact q _ H Gr.refl go (.tup h1 h2)
/-! ## xs[::-1] -/
/-! ## built-ins -/
def lenD : State → List D → Option D := fun st as => match as with
  | [.str z] => if few z.length = true then some (.int z.length) else none
  | [.lst ds] => some (.int ds.length)
  | [.tup ds] => some (.int ds.length)
  | [.own j] => (lat st j).map fun ds => .int ds.length
  | _ => none
theorem rn_len : RNO K (fun xs H Q => ∃ x n, xs = [x] ∧ LenV K x H n ∧ Q (.int n) H) lenD := by
  intro hid W st H xs as d go r e Q q
  match as, r, e with
  | [.str z], .cons (.str _) .nil, e =>
    have e' : (if few z.length = true then some (D.int z.length) else none) = some d := e
    split at e'
    · rename_i h
      cases e'
      exact ⟨_, _, rfl, ⟨few_le h, rfl⟩, q _ H Gr.refl go (.int _)⟩
    · cases e'
  | [.lst ds], .cons (.lst h1 h2) .nil, e =>
    cases e
    refine ⟨_, ds.length, rfl, .inl ⟨_, SqL.of (hd_sub _ _ h1), h2.length.symm⟩, q _ H Gr.refl go (.int _)⟩
  | [.tup ds], .cons (.tup h1 h2) .nil, e =>
    cases e
    refine ⟨_, ds.length, rfl, .inr ⟨_, Evl.ex_t hd_sub h1, h2.length.symm⟩, q _ H Gr.refl go (.int _)⟩
  | [.own j], .cons (.own (a := p0) hj) .nil, e =>
    obtain ⟨ds, e1, e2⟩ := Option.map_eq_some_iff.mp e
    subst e2
    obtain ⟨xs, hx, rx⟩ := go.lat hj e1
    exact ⟨_, ds.length, rfl, .inl ⟨_, SqL.of hx, rx.length.symm⟩, q _ H Gr.refl go (.int _)⟩
def absD : State → List D → Option D := fun _ as => match as with
  | [.int i] => some (.int (if i < 0 then -i else i))
  | _ => none
theorem rn_abs : RNO K (fun xs H Q => ∃ i, xs = [.int i] ∧ Q (.int (if i < 0 then -i else i)) H) absD := by
  intro hid W st H xs as d go r e Q q
  match as, r, e with
  | [.int i], .cons (.int _) .nil, e => cases e; exact ⟨i, rfl, q _ H Gr.refl go (.int _)⟩
def intD : State → List D → Option D := fun _ as => match as with
  | [.int i] => some (.int i)
  | [.bl k] => some (.int (if k then 1 else 0))
  | _ => none
theorem rn_int : RNO K (fun xs H Q => (∃ i, xs = [.int i] ∧ Q (.int i) H) ∨ ∃ k, xs = [.bl k] ∧ Q (.int (if k then 1 else 0)) H) intD := by
  intro hid W st H xs as d go r e Q q
  match as, r, e with
  | [.int i], .cons (.int _) .nil, e => cases e; exact .inl ⟨i, rfl, q _ H Gr.refl go (.int _)⟩
  | [.bl k], .cons (.bl _) .nil, e => cases e; exact .inr ⟨k, rfl, q _ H Gr.refl go (.int _)⟩
/-! isinstance -/
def tyD : D → Option String
  | .non => some "NoneType"
  | .bl _ => some "bool"
  | .int _ => some "int"
  | .str _ => some "str"
  | .lst _ => some "list"
  | .tup _ => some "tuple"
  | .dct _ _ => some "dict"
  | _ => none
def tyS (st : State) : D → Option String
  | .own j => (st[j]?).bind fun ds => match kindL ds with
    | .lst => some "list"
    | .dct _ => some "dict"
    | .ins _ _ => none
  | d => tyD d
theorem tyS_of {st : State} {d : D} {S : String} (h : tyD d = some S) : tyS st d = some S := by
  cases d <;> first | exact h | cases h
def isD : State → List D → Option D := fun st as => match as with
  | [a, .ty T] => (tyS st a).bind fun S => (kitB S T).map .bl
  | _ => none
theorem ty_of {hid W : List Addr} {st : State} {H : Hp} {x : V} {a : D} {S : String} (go : Good K hid W st H) (r : Rp K W (hd (hid ++ W) H) x a) (e : tyS st a = some S) : TyX K H x (.type S) := by
  match a, r, e with
  | .non, .non, e => cases e; exact .base .non
  | .bl _, .bl b, e => cases e; exact .base (.bl b)
  | .int _, .int b, e => cases e; exact .base (.int b)
  | .str _, .str b, e => cases e; exact .base (.str b)
  | .lst _, .lst h1 _, e => cases e; exact .base (.lst (hd_sub _ _ h1))
  | .dct _ _, .dct h1 _, e => cases e; exact .base (.dK (hd_sub _ _ h1))
  | .tup _, .tup h1 _, e =>
    cases e
    rcases Evl.ex_t (hd_sub (A := hid ++ W) (H := H)) h1 with (h | ⟨o, h⟩) | ⟨o, its, n, h, hc, _⟩
    · exact .base (.tup h)
    · exact .fTuple h
    · exact .kTuple h hc
  | .own j, .own (a := p) hj, e =>
    obtain ⟨ds, e1, e2⟩ := Option.bind_eq_some_iff.mp (show (st[j]?).bind _ = _ from e)
    obtain ⟨xs, hx, _⟩ := go.own j p ds hj e1
    revert e2 hx
    cases kindL ds with
    | lst => exact fun e2 hx => by cases e2; exact .base (.lst hx)
    | dct ks => exact fun e2 ⟨_, hx, _⟩ => by cases e2; exact .base (.dK hx)
    | ins C ks => exact fun e2 _ => by cases e2
theorem rn_is : RNO K (rIsi K) isD := by
  intro hid W st H xs as d go r e Q q
  match as, r, e with
  | [a, .ty T], .cons h1 (.cons (.ty _) .nil), e =>
    obtain ⟨S, e1, e2⟩ := Option.bind_eq_some_iff.mp e
    obtain ⟨b, e3, e4⟩ := Option.map_eq_some_iff.mp e2
    subst e4
    exact ⟨_, _, _, _, b, rfl, .ty T, ty_of go h1 e1, kit_ty e3, q _ H Gr.refl go (.bl b)⟩
/-! repr -/

/-! all(list of truths) -/
/-! list(x), tuple(x) -/
/-! ## s.split(t), s.join(list) -/
end
section
variable {K : PySem.W.Frag} {X : Cx}
/-! ## one operator, many kinds -/
def orF (f g : State → D → D → Option D) : State → D → D → Option D := fun st a b => match f st a b with
  | some d => some d
  | none => g st a b
theorem r2_or {r r' : R2} {f g : State → D → D → Option D} (h : R2O K r f) (h' : R2O K r' g) : R2O K (fun x y H Q => r x y H Q ∨ r' x y H Q) (orF f g) := by
  intro hid W st H x y a b d go r1 r2 e Q q
  unfold orF at e
  cases hf : f st a b with
  | some d' =>
    rw [hf] at e
    cases e
    exact .inl (h hid W st H x y a b _ go r1 r2 hf Q q)
  | none =>
    rw [hf] at e
    exact .inr (h' hid W st H x y a b d go r1 r2 e Q q)
def orS (f g : State → D → Option Int → Option Int → Option D) : State → D → Option Int → Option Int → Option D := fun st a lo hi => match f st a lo hi with
  | some d => some d
  | none => g st a lo hi
theorem rs_or {r r' : V → Option Int → Option Int → Hp → VK → Prop} {f g : State → D → Option Int → Option Int → Option D} (h : RSO K r f) (h' : RSO K r' g) : RSO K (fun x lo hi H Q => r x lo hi H Q ∨ r' x lo hi H Q) (orS f g) := by
  intro hid W st H x a lo hi d go r1 e Q q
  unfold orS at e
  cases hf : f st a lo hi with
  | some d' =>
    rw [hf] at e
    cases e
    exact .inl (h hid W st H x a lo hi _ go r1 hf Q q)
  | none =>
    rw [hf] at e
    exact .inr (h' hid W st H x a lo hi d go r1 e Q q)
def gtS := strS fun i j => .bl (decide (j.cps.toList < i.cps.toList))
def geS := strS fun i j => .bl (!decide (i.cps.toList < j.cps.toList))
theorem r2_gtS : R2O K (fun x y H Q => ∃ i j, x = .str i ∧ y = .str j ∧ Q (.bl (decide (j.cps.toList < i.cps.toList))) H) gtS := by
  intro hid W st H x y a b d go r1 r2 e Q q
  match a, r1, b, r2, e with
  | .str i, .str _, .str j, .str _, e => cases e; exact ⟨i, j, rfl, rfl, q _ H Gr.refl go (.bl _)⟩
theorem r2_geS : R2O K (fun x y H Q => ∃ i j, x = .str i ∧ y = .str j ∧ Q (.bl (!decide (i.cps.toList < j.cps.toList))) H) geS := by
  intro hid W st H x y a b d go r1 r2 e Q q
  match a, r1, b, r2, e with
  | .str i, .str _, .str j, .str _, e => cases e; exact ⟨i, j, rfl, rfl, q _ H Gr.refl go (.bl _)⟩
def addD := orF addI (orF addS (orF addL addT))
def mulD := orF mulI (orF mulSD mulLD)
def ltD := orF ltI ltS
def gtD := orF gtI gtS
def geD := orF geI geS
def slD := orS slLD (orS slSD slTD)
/-! flat things in a list or a tuple of flat things -/
def flatD : D → Bool
  | .non => true
  | .bl _ => true
  | .int _ => true
  | .str _ => true
  | _ => false
def vOf : D → V
  | .non => .non
  | .bl b => .bl b
  | .int i => .int i
  | .str x => .str x
  | _ => .non
theorem flat_rp {W : List Addr} {h : Hp} {v : V} {d : D} (r : Rp K W h v d) (f : flatD d = true) : v = vOf d ∧ flatV v = true := by
  cases r <;> first | exact ⟨rfl, rfl⟩ | exact absurd f Bool.false_ne_true
theorem flats_rp {W : List Addr} {h : Hp} : ∀ {vs : List V} {ds : List D}, RpAll K W h vs ds → ds.all flatD = true → vs = ds.map vOf ∧ vs.all flatV = true
  | _, _, .nil, _ => ⟨rfl, rfl⟩
  | _, _, .cons r t, f => by
    rw [List.all_cons, Bool.and_eq_true] at f
    obtain ⟨e1, f1⟩ := flat_rp r f.1
    obtain ⟨e2, f2⟩ := flats_rp t f.2
    refine ⟨by rw [List.map_cons, ← e1, ← e2], by rw [List.all_cons, f1, f2]; rfl⟩
def inQD (neg : Bool) : State → D → D → Option D := fun _ a b => match b with
  | .lst ds => if flatD a && ds.all flatD then some (.bl (if neg then !inV (vOf a) (ds.map vOf) else inV (vOf a) (ds.map vOf))) else none
  | .tup ds => if flatD a && ds.all flatD then some (.bl (if neg then !inV (vOf a) (ds.map vOf) else inV (vOf a) (ds.map vOf))) else none
  | _ => none
theorem r2_inQ (neg : Bool) : R2O K (rIn K neg) (inQD neg) := by
  intro hid W st H x y a b d go r1 r2 e Q q
  match b, r2, e with
  | .lst ds, .lst h1 h2, e =>
    have e' : (if (flatD a && ds.all flatD) = true then some (D.bl (if neg then !inV (vOf a) (ds.map vOf) else inV (vOf a) (ds.map vOf))) else none) = some d := e
    split at e'
    · rename_i h
      rw [Bool.and_eq_true] at h
      cases e'
      obtain ⟨e1, f1⟩ := flat_rp r1 h.1
      obtain ⟨e2, f2⟩ := flats_rp h2 h.2
      subst e1 e2
      exact ⟨_, _, rfl, .inl (SqL.of (hd_sub _ _ h1)), f1, f2, q _ H Gr.refl go (.bl _)⟩
    · cases e'
  | .tup ds, .tup h1 h2, e =>
    have e' : (if (flatD a && ds.all flatD) = true then some (D.bl (if neg then !inV (vOf a) (ds.map vOf) else inV (vOf a) (ds.map vOf))) else none) = some d := e
    split at e'
    · rename_i h
      rw [Bool.and_eq_true] at h
      cases e'
      obtain ⟨e1, f1⟩ := flat_rp r1 h.1
      obtain ⟨e2, f2⟩ := flats_rp h2 h.2
      subst e1 e2
      exact ⟨_, _, rfl, .inr (Evl.ex_t hd_sub h1), f1, f2, q _ H Gr.refl go (.bl _)⟩
    · cases e'
/-! == of flat things; of data -/
def eqFl : State → D → D → Option D := fun _ a b => if flatD a && flatD b && scal (vOf a) (vOf b) then some (.bl (decide (vOf a = vOf b))) else none
def neFl : State → D → D → Option D := fun _ a b => if flatD a && flatD b && scal (vOf a) (vOf b) then some (.bl (!decide (vOf a = vOf b))) else none
theorem r2_eqFl : R2O K rEq eqFl := by
  intro hid W st H x y a b d go r1 r2 e Q q
  unfold eqFl at e
  split at e
  · rename_i h
    simp only [Bool.and_eq_true] at h
    cases e
    obtain ⟨e1, _⟩ := flat_rp r1 h.1.1
    obtain ⟨e2, _⟩ := flat_rp r2 h.1.2
    subst e1 e2
    exact ⟨h.2, q _ H Gr.refl go (.bl _)⟩
  · cases e
theorem r2_neFl : R2O K rNe neFl := by
  intro hid W st H x y a b d go r1 r2 e Q q
  unfold neFl at e
  split at e
  · rename_i h
    simp only [Bool.and_eq_true] at h
    cases e
    obtain ⟨e1, _⟩ := flat_rp r1 h.1.1
    obtain ⟨e2, _⟩ := flat_rp r2 h.1.2
    subst e1 e2
    exact ⟨h.2, q _ H Gr.refl go (.bl _)⟩
  · cases e
def eqA := orF eqFl eqD
def neA := orF neFl neD
def inD := orF (inSD false) (inQD false)
variable {a b c e : Expr} {ma mb mc me : ME} {pos : Pos}
theorem d_add (ha : ED X a ma) (hb : ED X b mb) : ED X (.BinOp a .Add b pos) (m2 addD ma mb) := d_op (OpR.or op_add (OpR.or op_add_str (OpR.or op_cat op_catA))) (r2_or r2_add (r2_or r2_addS (r2_or r2_addL r2_addT))) ha hb
theorem d_sub (ha : ED X a ma) (hb : ED X b mb) : ED X (.BinOp a .Sub b pos) (m2 subI ma mb) := d_op op_sub r2_sub ha hb
theorem d_mul (ha : ED X a ma) (hb : ED X b mb) : ED X (.BinOp a .Mult b pos) (m2 mulD ma mb) := d_op (OpR.or op_mul (OpR.or op_times op_rep)) (r2_or r2_mul (r2_or r2_times r2_mulL)) ha hb
theorem d_mod (ha : ED X a ma) (hb : ED X b mb) : ED X (.BinOp a .Mod b pos) (m2 modI ma mb) := d_op op_mod r2_mod ha hb
theorem d_div (ha : ED X a ma) (hb : ED X b mb) : ED X (.BinOp a .FloorDiv b pos) (m2 divI ma mb) := d_op op_fdiv r2_div ha hb
theorem d_pow (ha : ED X a ma) (hb : ED X b mb) : ED X (.BinOp a .Pow b pos) (m2 powI ma mb) := d_op op_pow r2_pow ha hb
/-- a comparison's rule with its mirror -/
structure CmpD (X : Cx) (op : CmpOp) (f : State → D → D → Option D) : Prop where
  ex : ∃ r, OpR X (compareOp op) r ∧ R2O X.K r f
theorem c_lt : CmpD X .Lt ltD := ⟨_, OpR.or op_lt op_lt_str, r2_or r2_lt r2_ltS⟩
theorem c_gt : CmpD X .Gt gtD := ⟨_, OpR.or op_gt op_gt_str, r2_or r2_gt r2_gtS⟩
theorem c_ge : CmpD X .GtE geD := ⟨_, OpR.or op_ge op_ge_str, r2_or r2_ge r2_geS⟩
theorem c_eq (hu : X.A.units + 64 < cLine) : CmpD X .Eq eqA := ⟨_, OpR.or op_eq (op_eqD hu), r2_or r2_eqFl r2_eq⟩
theorem c_ne (hu : X.A.units + 64 < cLine) : CmpD X .NotEq neA := ⟨_, OpR.or op_ne (op_neD hu), r2_or r2_neFl r2_ne⟩
theorem c_in : CmpD X .In inD := ⟨_, OpR.or op_in_sign op_in_seq, r2_or r2_inS (r2_inQ false)⟩
variable {op op' : CmpOp} {f f' : State → D → D → Option D}
theorem dc (h : CmpD X op f) (ha : ED X a ma) (hb : ED X b mb) (hm : behindInMarks op b = false := by first | exact nomark _ | rfl) : ED X (.Compare a [op] [b] pos) (m2 f ma mb) :=
  let ⟨_, h1, h2⟩ := h.ex; d_cmp h1 h2 ha hb hm
theorem tc (h : CmpD X op f) (ha : ED X a ma) (hb : ED X b mb) (hm : behindInMarks op b = false := by first | exact nomark _ | rfl) : TD X (.Compare a [op] [b] pos) (tOf (m2 f ma mb)) :=
  let ⟨_, h1, h2⟩ := h.ex; t_cmp h1 h2 ha hb hm
theorem d_item (ha : ED X a ma) (hb : ED X b mb) (hs : PlainIx b := by exact fun _ _ => rfl) : ED X (.Subscript a b pos) (m2 ixD ma mb) := d_ix ix_seq r2_ix ha hb hs
theorem d_slice {lo hi : Option Expr} {ml mh : MO} {p2 : Pos} (he : ED X e me) (hl : OD X lo ml) (hh : OD X hi mh) : ED X (.Subscript e (.Slice lo hi none p2) pos) (mSl slD me ml mh) :=
  d_sl (SlR.or sl_list (SlR.or sl_str sl_tupA)) (rs_or rs_list (rs_or rs_str rs_tup)) he hl hh
/-! ## o[i] += e -/
def rGetL (K : PySem.W.Frag) : V → V → Hp → VK → Prop := fun o i H Q => ∃ p xs k v, o = .ref p ∧ i = .int k ∧ SqL K H p xs ∧ 0 ≤ k ∧ k < 1000000 ∧ xs[k.toNat]? = some v ∧ Q v H
theorem get_list : PGet X (rGetL X.K) := by
  intro pins s σ H o i ov iv Q I ro ri h
  obtain ⟨p, xs, k, v, rfl, rfl, hs, h0, h1, hv, q⟩ := h
  cases ro
  obtain ⟨t, rfl⟩ := ri
  obtain ⟨its, rv, ⟨ob, n, ho, hc, _, hd⟩, _⟩ := I.list hs
  obtain ⟨u, hu, ru⟩ := rv.get hv
  exact wpAny_getItem_list (items := its.toArray) ⟨ob, ho, hc, n, hd⟩ h0 (by omega) (by simpa using hu) ⟨v, H, I, ru, q⟩
def sAugI (o i e : ME) : MS := fun _ ρ st => (o ρ st).bind fun p => (i ρ p.2).bind fun q => match p.1, q.1 with
  | .own j, .int k => if 0 ≤ k ∧ k < 1000000 then (lat q.2 j).bind fun ds => match ds[k.toNat]? with
      | some (.int x) => (e ρ q.2).bind fun r => match r.1 with
        | .int y => (setD r.2 (.own j) (.int k) (.int (x + y))).map fun s => (.next ρ, s)
        | _ => none
      | _ => none
    else none
  | _, _ => none
theorem s_augI {o i e : Expr} {mo mi me : ME} {tpos : Pos} (ho : ED X o mo) (hi : ED X i mi) (he : ED X e me)
    (ha : ∀ ov iv new, augStore i ov iv new = (do holding [new, ov, iv] (setItem ov iv new); release [new, ov, iv] []; pure .next) := by intros; rfl) : SD X (.AugAssign (.Subscript o i tpos) .Add e pos) (sAugI mo mi me) := by
  obtain ⟨_, p1, q1⟩ := ho.ex
  obtain ⟨_, p2, q2⟩ := hi.ex
  obtain ⟨_, p3, q3⟩ := he.ex
  refine ⟨_, ps_augS p1 p2 get_list p3 ip_add set_list ha, ?_⟩
  intro hid W0 H0 W st H ρ σ ou st' G g rs e E q
  obtain ⟨⟨y, s1⟩, e1, e⟩ := Option.bind_eq_some_iff.mp e
  obtain ⟨⟨z, s2⟩, e2, e⟩ := Option.bind_eq_some_iff.mp e
  refine q1 hid W st H ρ σ y s1 g rs e1 _ fun W1 v1 H1 g1 o1 r1 => ?_
  refine q2 hid W1 s1 H1 ρ σ z s2 o1 (g1.rs rs) e2 _ fun W2 v2 H2 g2 o2 r2 => ?_
  match y, r1, z, r2, e with
  | .own j, .own (a := a) hj, .int k, .int _, e =>
    simp only at e
    split at e
    · rename_i hk
      obtain ⟨ds, h1, e⟩ := Option.bind_eq_some_iff.mp e
      split at e
      · rename_i x hx
        obtain ⟨⟨w, s3⟩, e3, e⟩ := Option.bind_eq_some_iff.mp e
        have hj2 := g2.pre j a hj
        obtain ⟨xs, hxs, rx⟩ := o2.lat hj2 h1
        obtain ⟨vx, hvx, rvx⟩ := rx.get hx
        cases rvx
        refine ⟨a, xs, k, .int x, rfl, rfl, SqL.of hxs, hk.1, hk.2, hvx, ?_⟩
        refine q3 hid W2 s2 H2 ρ σ w s3 o2 ((g1.trans g2).rs rs) e3 _ fun W3 v3 H3 g3 o3 r3 => ?_
        match w, r3, e with
        | .int y, .int _, e =>
          obtain ⟨s4, e4, e5⟩ := Option.map_eq_some_iff.mp e
          cases e5
          obtain ⟨ds3, h3, h4⟩ := Option.bind_eq_some_iff.mp e4
          obtain ⟨n, h5, h6⟩ := Option.map_eq_some_iff.mp h4
          subst h6
          have hj3 := g3.pre j a hj2
          obtain ⟨xs3, hx3, rx3⟩ := o3.lat hj3 h3
          obtain ⟨gS, oS, _⟩ := o3.store hj3 hx3 (rx3.set n (.int (x + y)))
          exact ⟨x, y, rfl, rfl, a, xs3, k, n, rfl, rfl, hx3, by rw [rx3.length]; exact h5, q W3 σ _ (G.trans (g1.trans (g2.trans (g3.trans gS)))) oS ((g1.trans (g2.trans (g3.trans gS))).rs rs)⟩
      · cases e
    · cases e
/-! ## an error as a value; isinstance beside it -/
theorem d_gcls {C : Addr} {x : Str} {pos : Pos} (hg : Gl X x) (hm : X.mg x = some (.ref C)) (hd : (x == ("__debug__" : Str)) = false := by decide) : ED X (.Name x pos) (mC (.ref C)) :=
  ⟨_, pe_glob hg hm (v := .ref C) rfl hd, ev_c fun _ _ => .ref C⟩
end
/-- a def of the text, found by its name -/
def At (K : PySem.W.Frag) (mg : Str → Option Value) (x : Str) (st : Stmt) : Prop := ∃ (a : Addr) (fd : FuncData), Fun K x x st a fd ∧ mg x = some (.ref a)
section
variable {P : Program} {w : World} {K : PySem.W.Frag} {mg : Str → Option Value} {k : Nat} {x : Str} {st : Stmt} {N ps : List Str} {m : MS}
end
section
variable {X : Cx} {ps : List Str} {k n : Nat} {fm : List D → State → Option (D × State)} {x : Str} {p pos : Pos} {e : Expr} {es : List Expr} {mA : MA}
end
theorem u66 {k : Nat} {A : Around} (r : Room k A) : A.units + 66 < cLine := by
  have := r.un
  omega
theorem hd_nil (H : Hp) : hd ([] ++ []) H = H := by
  funext a
  unfold hd
  rw [if_neg (by simp)]
/-! ## mirrors in plain Lean: what comes of them -/
def OK {α : Type} (o : Option α) (Q : α → Prop) : Prop := ∃ a, o = some a ∧ Q a
section
variable {α β : Type} {Q : α → Prop}
@[simp] theorem ok_some {a : α} : OK (some a) Q ↔ Q a := ⟨fun ⟨_, e, q⟩ => by cases e; exact q, fun q => ⟨a, rfl, q⟩⟩
@[simp] theorem ok_bind {o : Option β} {f : β → Option α} : OK (o.bind f) Q ↔ OK o fun b => OK (f b) Q := by
  constructor
  · rintro ⟨a, e, q⟩
    obtain ⟨b, e1, e2⟩ := Option.bind_eq_some_iff.mp e
    exact ⟨b, e1, a, e2, q⟩
  · rintro ⟨b, e1, a, e2, q⟩
    exact ⟨a, Option.bind_eq_some_iff.mpr ⟨b, e1, e2⟩, q⟩
@[simp] theorem ok_map {o : Option β} {f : β → α} : OK (o.map f) Q ↔ OK o fun b => Q (f b) := by
  constructor
  · rintro ⟨a, e, q⟩
    obtain ⟨b, e1, e2⟩ := Option.map_eq_some_iff.mp e
    subst e2
    exact ⟨b, e1, q⟩
  · rintro ⟨b, e1, q⟩
    exact ⟨f b, Option.map_eq_some_iff.mpr ⟨b, e1, rfl⟩, q⟩
theorem ok_if {c : Prop} [Decidable c] {a b : Option α} : OK (if c then a else b) Q ↔ (if c then OK a Q else OK b Q) := by
  by_cases h : c
  · rw [if_pos h, if_pos h]
  · rw [if_neg h, if_neg h]
theorem OK.mono {o : Option α} {Q' : α → Prop} (h : OK o Q) (hq : ∀ a, Q a → Q' a) : OK o Q' := let ⟨a, e, q⟩ := h; ⟨a, e, hq a q⟩
end
/-- what a def's body comes to -/
theorem ok_fn {n : Nat} {m : MS} {ds : List D} {st : State} {Q : D × State → Prop} (h : OK (m st.length (ds.map some ++ List.replicate (n - ds.length) none) st) fun p => match p.1 with
    | .ret d => Q (d, p.2)
    | .next _ => Q (.non, p.2)
    | _ => False) : OK (fnM n m ds st) Q := by
  obtain ⟨⟨o, s⟩, e, q⟩ := h
  unfold fnM
  rw [e]
  cases o with
  | next ρ => exact ⟨_, rfl, q⟩
  | ret d => exact ⟨_, rfl, q⟩
  | brk ρ => exact q.elim
  | cont ρ => exact q.elim
/-- a comprehension that draws nothing: map and filter -/
theorem lc_pure {i : Nat} {t : MT} {e : ME} {ρ : Store} {st : State} {pt : D → Bool} {pe : D → D} : ∀ items : List D,
    (∀ d ∈ items, t (ρ.set i (some d)) st = some (pt d, st)) → (∀ d ∈ items, pt d = true → e (ρ.set i (some d)) st = some (pe d, st)) →
    lcM (gNameM i) t e ρ items st = some ((items.filter pt).map pe, st)
  | [], _, _ => rfl
  | d :: r, h1, h2 => by
    unfold lcM gNameM
    have ih := lc_pure r (fun d hd => h1 d (List.mem_cons_of_mem _ hd)) (fun d hd => h2 d (List.mem_cons_of_mem _ hd))
    rw [Option.bind_some, h1 d List.mem_cons_self, Option.bind_some]
    cases hb : pt d with
    | true =>
      rw [if_pos rfl, h2 d List.mem_cons_self hb, Option.bind_some]
      show (lcM (gNameM i) t e ρ r st).map _ = _
      rw [ih, List.filter_cons, hb]
      rfl
    | false =>
      rw [if_neg Bool.false_ne_true]
      show lcM (gNameM i) t e ρ r st = _
      rw [ih, List.filter_cons, hb]
      rfl
/-- a for by an invariant of names and state; it may be left by a return -/
theorem ok_for {g : MG} {b : MS} {n : Nat} {I : Store → State → Prop} {R : D → State → Prop} : ∀ (items : List D) (ρ : Store) (st : State), I ρ st →
    (∀ d ∈ items, ∀ ρ st, I ρ st → OK (g d ρ) fun ρ2 => OK (b n ρ2 st) fun p => match p.1 with
      | .next ρ3 => I ρ3 p.2
      | .cont ρ3 => I ρ3 p.2
      | .brk ρ3 => False
      | .ret d => R d p.2) →
    OK (forM g b n items ρ st) fun p => match p.1 with
      | .next ρ3 => I ρ3 p.2
      | .ret d => R d p.2
      | _ => False
  | [], ρ, st, hi, _ => by
    unfold forM
    exact ok_some.mpr hi
  | d :: r, ρ, st, hi, h => by
    unfold forM
    rw [ok_bind]
    refine (h d List.mem_cons_self ρ st hi).mono fun ρ2 h2 => ?_
    rw [ok_bind]
    refine h2.mono fun p hp => ?_
    have ih := fun ρ st hi => ok_for r ρ st hi fun d hd => h d (List.mem_cons_of_mem _ hd)
    obtain ⟨o, s⟩ := p
    cases o with
    | next ρ3 => exact ih ρ3 s hp
    | cont ρ3 => exact ih ρ3 s hp
    | brk ρ3 => exact hp.elim
    | ret d => exact ok_some.mpr hp
/-! ## step by step -/
section
variable {n : Nat} {ρ : Store} {st st' : State} {d : D} {QS : Out × State → Prop} {QE : D × State → Prop} {QA : List D × State → Prop}
theorem ok_seq {a b : MS} (h : OK (a n ρ st) fun p => match p.1 with
    | .next ρ' => OK (b n ρ' p.2) QS
    | o => QS (o, p.2)) : OK (sSeq a b n ρ st) QS := by
  obtain ⟨⟨o, s⟩, e, q⟩ := h
  unfold sSeq
  rw [e, Option.bind_some]
  cases o with
  | next ρ' => exact q
  | ret d => exact ok_some.mpr q
  | brk ρ' => exact ok_some.mpr q
  | cont ρ' => exact ok_some.mpr q
theorem ok_next (q : QS (.next ρ, st)) : OK (sNext n ρ st) QS := ⟨_, rfl, q⟩
theorem ok_set {i : Nat} {e : ME} (h : OK (e ρ st) fun p => QS (.next (ρ.set i (some p.1)), p.2)) : OK (sSet i e n ρ st) QS := by
  unfold sSet
  exact ok_map.mpr h
theorem ok_ret {e : ME} (h : OK (e ρ st) fun p => QS (.ret p.1, p.2)) : OK (sRet e n ρ st) QS := by
  unfold sRet
  exact ok_map.mpr h
theorem ok_ifS {t : MT} {a b : MS} (h : OK (t ρ st) fun p => if p.1 = true then OK (a n ρ p.2) QS else OK (b n ρ p.2) QS) : OK (sIf t a b n ρ st) QS := by
  unfold sIf
  rw [ok_bind]
  exact h.mono fun p q => ok_if.mpr q
theorem ok_ifV {t : MT} {a b : MS} {c : Bool} (e : t ρ st = some (c, st')) (h1 : c = true → OK (a n ρ st') QS) (h2 : c = false → OK (b n ρ st') QS) : OK (sIf t a b n ρ st) QS := by
  refine ok_ifS ⟨_, e, ?_⟩
  cases c with
  | true => rw [if_pos rfl]; exact h1 rfl
  | false => rw [if_neg Bool.false_ne_true]; exact h2 rfl
theorem ok_setI {v o i : ME} (h : OK (v ρ st) fun p => OK (o ρ p.2) fun q => OK (i ρ q.2) fun r => OK (setD r.2 q.1 r.1 p.1) fun s => QS (.next ρ, s)) : OK (sSetI v o i n ρ st) QS := by
  unfold sSetI
  simp only [ok_bind, ok_map]
  exact h
theorem ok_forS {src : MA} {g : MG} {b : MS} (h : OK (src ρ st) fun p => OK (forM g b p.2.length p.1 ρ p.2) QS) : OK (sFor src g b n ρ st) QS := by
  unfold sFor
  exact ok_bind.mpr h
theorem ok_v {α : Type} {o : Option α} {a : α} {Q : α → Prop} (e : o = some a) (q : Q a) : OK o Q := ⟨a, e, q⟩
theorem ok_m1 {f : State → D → Option D} {a : ME} (h : OK (a ρ st) fun p => OK (f p.2 p.1) fun z => QE (z, p.2)) : OK (m1 f a ρ st) QE := by
  unfold m1
  simp only [ok_bind, ok_map]
  exact h
theorem ok_m2 {f : State → D → D → Option D} {a b : ME} (h : OK (a ρ st) fun p => OK (b ρ p.2) fun q => OK (f q.2 p.1 q.1) fun z => QE (z, q.2)) : OK (m2 f a b ρ st) QE := by
  unfold m2
  simp only [ok_bind, ok_map]
  exact h
theorem ok_mN {f : State → List D → Option D} {a : MA} (h : OK (a ρ st) fun p => OK (f p.2 p.1) fun z => QE (z, p.2)) : OK (mN f a ρ st) QE := by
  unfold mN
  simp only [ok_bind, ok_map]
  exact h
theorem ok_call {k : Nat} {f : List D → State → Option (D × State)} {a : MA} (h : OK (a ρ st) fun p => p.1.length = k ∧ OK (f p.1 p.2) QE) : OK (mCallN k f a ρ st) QE := by
  unfold mCallN
  rw [ok_bind]
  exact h.mono fun p q => by rw [if_pos q.1]; exact q.2
theorem ok_nil (q : QA ([], st)) : OK (aNil ρ st) QA := ⟨_, rfl, q⟩
theorem ok_cons {a : ME} {r : MA} (h : OK (a ρ st) fun p => OK (r ρ p.2) fun q => QA (p.1 :: q.1, q.2)) : OK (aCons a r ρ st) QA := by
  unfold aCons
  simp only [ok_bind, ok_map]
  exact h
theorem ok_var {i : Nat} (e : ρ[i]? = some (some d)) (q : QE (d, st)) : OK (mVar i ρ st) QE := by
  unfold mVar
  rw [e]
  exact ok_some.mpr q
theorem ok_c (q : QE (d, st)) : OK (mC d ρ st) QE := ⟨_, rfl, q⟩
theorem ok_lst {a : MA} (h : OK (a ρ st) fun p => few p.1.length = true ∧ QE (.lst p.1, p.2)) : OK (mLst a ρ st) QE := by
  unfold mLst
  rw [ok_bind]
  exact h.mono fun p q => by rw [if_pos q.1]; exact ok_some.mpr q.2
theorem ok_tup {a : MA} (h : OK (a ρ st) fun p => few p.1.length = true ∧ QE (.tup p.1, p.2)) : OK (mTup a ρ st) QE := by
  unfold mTup
  rw [ok_bind]
  exact h.mono fun p q => by rw [if_pos q.1]; exact ok_some.mpr q.2
theorem ok_mLc {src : MA} {vs : List Nat} {g : MG} {t : MT} {e : ME} (h : OK (src ρ st) fun p => few p.1.length = true ∧ OK (lcM g t e (wipeR ρ vs) p.1 p.2) fun z => QE (.lst z.1, z.2)) : OK (mLc src vs g t e ρ st) QE := by
  unfold mLc
  rw [ok_bind]
  refine h.mono fun p q => ?_
  rw [if_pos q.1]
  exact ok_map.mpr q.2
theorem ok_rng {a : ME} {k : Int} (e : a ρ st = some (.int k, st')) (h : k ≤ 1000000) (h' : -1000000 ≤ k) (q : QA (upTo k.toNat, st')) : OK (iRngM a ρ st) QA := by
  unfold iRngM
  rw [e, Option.bind_some]
  show OK (if k ≤ 1000000 ∧ -1000000 ≤ k then some (upTo k.toNat, st') else none) QA
  rw [if_pos ⟨h, h'⟩]
  exact ok_some.mpr q
end
theorem mem_upTo {n : Nat} {d : D} (h : d ∈ upTo n) : ∃ i : Nat, i < n ∧ d = .int (i : Int) := by
  unfold upTo at h
  obtain ⟨i, hi, e⟩ := List.mem_map.mp h
  exact ⟨i, List.mem_range.mp hi, e.symm⟩
/-! ## drawing -/
/-- a bag as data -/
def BagD (ds : List D) : Prop := ∃ (num seed pos : Int) (cells : List Int), ds = [.int num, .int seed, .int pos, .lst (cells.map .int)] ∧ 0 ≤ num ∧ 0 ≤ seed ∧ 0 ≤ pos ∧ ∀ c ∈ cells, 0 ≤ c
/-! ## data that can be shown and compared: how large, how deep -/
mutual
def D.fine : D → Bool
  | .non => true
  | .bl _ => true
  | .int i => decide (i.natAbs.log2 < 1920)
  | .str x => x.cps.toList.all fun c => decide (c < 1114112)
  | .lst xs => D.fines xs
  | .tup xs => D.fines xs
  | .dct _ _ => false
  | .own _ => false
  | .ref _ => false
  | .ty _ => false
  | .exn _ => false
  | .scr _ => false
  | .ins _ _ _ => false
  | .exc _ _ _ _ => false
  | .exv _ _ _ => false
def D.fines : List D → Bool
  | [] => true
  | d :: ds => d.fine && D.fines ds
end
mutual
def D.sz : D → Nat
  | .int _ => 2000
  | .str x => 10 * x.length + 2
  | .lst xs => D.szs xs + 2
  | .tup xs => D.szs xs + 3
  | _ => 5
def D.szs : List D → Nat
  | [] => 0
  | d :: ds => d.sz + 2 + D.szs ds
end
mutual
def D.dep : D → Nat
  | .lst xs => D.deps xs + 1
  | .tup xs => D.deps xs + 1
  | _ => 0
def D.deps : List D → Nat
  | [] => 0
  | d :: ds => max d.dep (D.deps ds)
end
mutual
theorem fine_plain : ∀ d : D, d.fine = true → d.plain = true
  | .non, _ => rfl
  | .bl _, _ => rfl
  | .int _, _ => rfl
  | .str _, _ => rfl
  | .lst xs, h => fines_plain xs h
  | .tup xs, h => fines_plain xs h
theorem fines_plain : ∀ ds : List D, D.fines ds = true → D.plains ds = true
  | [], _ => rfl
  | d :: ds, h => by
    obtain ⟨h1, h2⟩ := Bool.and_eq_true_iff.mp (show (d.fine && D.fines ds) = true from h)
    show (d.plain && D.plains ds) = true
    rw [fine_plain d h1, fines_plain ds h2]; rfl
end

mutual
theorem fine_lay : ∀ d : D, d.fine = true → d.py.canLay0 = true
  | .non, _ => by simp only [D.py, PyData.canLay0]
  | .bl _, _ => by simp only [D.py, PyData.canLay0]
  | .int i, h => by simp only [D.py, PyData.canLay0]
  | .str x, h => by
    simp only [D.py, PyData.canLay0, PyData.strOk]
    have h' : (x.cps.toList.all fun c => decide (c < 1114112)) = true := by simpa only [D.fine] using h
    rw [← Array.all_toList]
    exact h'
  | .lst xs, h => by simp only [D.py, PyData.canLay0]; exact fines_lay xs (by simpa only [D.fine] using h)
  | .tup xs, h => by simp only [D.py, PyData.canLay0]; exact fines_lay xs (by simpa only [D.fine] using h)
theorem fines_lay : ∀ ds : List D, D.fines ds = true → PyData.canLayAll0 (D.pys ds) = true
  | [], _ => by simp only [D.pys, PyData.canLayAll0]
  | d :: ds, h => by
    obtain ⟨h1, h2⟩ := Bool.and_eq_true_iff.mp (show (d.fine && D.fines ds) = true from h)
    simp only [D.pys, PyData.canLayAll0, fine_lay d h1, fines_lay ds h2, Bool.and_self]
end
mutual
theorem dep_py : ∀ d : D, d.py.depth = d.dep
  | .non => by simp only [D.py, PyData.depth, D.dep]
  | .bl _ => by simp only [D.py, PyData.depth, D.dep]
  | .int i => by simp only [D.py, PyData.depth, D.dep]
  | .str x => by simp only [D.py, PyData.depth, D.dep]
  | .lst xs => by simp only [D.py, PyData.depth, D.dep, deps_py xs]
  | .tup xs => by simp only [D.py, PyData.depth, D.dep, deps_py xs]
  | .dct _ _ => by simp only [D.py, PyData.depth, D.dep]
  | .own _ => by simp only [D.py, PyData.depth, D.dep]
  | .ref _ => by simp only [D.py, PyData.depth, D.dep]
  | .ty _ => by simp only [D.py, PyData.depth, D.dep]
  | .exn _ => by simp only [D.py, PyData.depth, D.dep]
  | .scr _ => by simp only [D.py, PyData.depth, D.dep]
  | .ins _ _ _ => by simp only [D.py, PyData.depth, D.dep]
  | .exc _ _ _ _ => by simp only [D.py, PyData.depth, D.dep]
  | .exv _ _ _ => by simp only [D.py, PyData.depth, D.dep]
theorem deps_py : ∀ ds : List D, PyData.depthAll (D.pys ds) = D.deps ds
  | [] => by simp only [D.pys, PyData.depthAll, D.deps]
  | d :: ds => by simp only [D.pys, PyData.depthAll, D.deps, dep_py d, deps_py ds]
end

/-- shown and compared without harm -/
def D.good (d : D) : Bool := d.fine && decide (d.dep ≤ 64) && decide (d.sz ≤ 1000000)
theorem good_fine {d : D} (h : d.good = true) : d.fine = true ∧ d.dep ≤ 64 ∧ d.sz ≤ 1000000 := by
  unfold D.good at h
  simp only [Bool.and_eq_true, decide_eq_true_eq] at h
  exact ⟨h.1.1, h.1.2, h.2⟩
theorem shaped_good {d : D} (h : d.good = true) : SeqAt.shaped d.py = true := by
  obtain ⟨h1, h2, _⟩ := good_fine h
  unfold SeqAt.shaped
  rw [fine_lay d h1, dep_py, decide_eq_true h2]; rfl
theorem eqA_str {st : State} {x y : Str} : eqA st (.str x) (.str y) = some (.bl (decide (x = y))) := by
  have e : decide (V.str x = V.str y) = decide (x = y) := by
    by_cases h : x = y
    · rw [decide_eq_true h, h, decide_eq_true rfl]
    · rw [decide_eq_false h, decide_eq_false fun z => h (V.str.inj z)]
  show some (D.bl (decide (V.str x = V.str y))) = _
  rw [e]
theorem eq_of_ok {α : Type} {o : Option α} {a : α} (h : OK o fun p => p = a) : o = some a := by
  obtain ⟨p, e, rfl⟩ := h
  exact e
theorem few_of {n : Nat} (h : n ≤ 1000000) : few n = true := decide_eq_true h
/-! ## texts by their signs -/
def cs (x : Str) : List Nat := x.cps.toList
/-! ## a few steps more -/
section
variable {ρ : Store} {st st' : State} {QE : D × State → Prop} {QA : List D × State → Prop}
theorem ok_rngO {a : ME} (h : OK (a ρ st) fun p => ∃ k : Int, p.1 = .int k ∧ k ≤ 1000000 ∧ -1000000 ≤ k ∧ QA (upTo k.toNat, p.2)) : OK (iRngM a ρ st) QA := by
  obtain ⟨⟨d, s⟩, e, k, e1, h1, h2, q⟩ := h
  cases (show d = .int k from e1)
  exact ok_rng e h1 h2 q
theorem ok_iLst {a : ME} (h : OK (a ρ st) fun p => ∃ ds, p.1 = .lst ds ∧ QA (ds, p.2)) : OK (iLst a ρ st) QA := by
  obtain ⟨⟨d, s⟩, e, ds, e1, q⟩ := h
  cases (show d = .lst ds from e1)
  unfold iLst
  rw [e]
  exact ⟨_, rfl, q⟩
theorem ok_sl {f : State → D → Option Int → Option Int → Option D} {a : ME} {lo hi : MO} (h : OK (a ρ st) fun p => OK (lo ρ p.2) fun q => OK (hi ρ q.2) fun r => OK (f r.2 p.1 q.1 r.1) fun z => QE (z, r.2)) : OK (mSl f a lo hi ρ st) QE := by
  unfold mSl
  simp only [ok_bind, ok_map]
  exact h
theorem ok_oNone {Q : Option Int × State → Prop} (q : Q (none, st)) : OK (oNone ρ st) Q := ⟨_, rfl, q⟩
theorem ok_oSome {a : ME} {Q : Option Int × State → Prop} (h : OK (a ρ st) fun p => ∃ i, p.1 = .int i ∧ Q (some i, p.2)) : OK (oSome a ρ st) Q := by
  obtain ⟨⟨d, s⟩, e, i, e1, q⟩ := h
  cases (show d = .int i from e1)
  unfold oSome
  rw [e]
  exact ⟨_, rfl, q⟩
end
theorem eqA_int {st : State} {x y : Int} : eqA st (.int x) (.int y) = some (.bl (decide (x = y))) := by
  have e : decide (V.int x = V.int y) = decide (x = y) := by
    by_cases h : x = y
    · rw [decide_eq_true h, h, decide_eq_true rfl]
    · rw [decide_eq_false h, decide_eq_false fun z => h (V.int.inj z)]
  show some (D.bl (decide (V.int x = V.int y))) = _
  rw [e]
theorem add_lst {st : State} {x y : List D} (h : x.length + y.length ≤ 1000000) : addD st (.lst x) (.lst y) = some (.lst (x ++ y)) := by
  have e : addL st (.lst x) (.lst y) = some (.lst (x ++ y)) := by
    show (if few (x.length + y.length) = true then some (D.lst (x ++ y)) else none) = _
    rw [if_pos (few_of h)]
  show (match addL st (.lst x) (.lst y) with | some d => some d | none => _) = _
  rw [e]
theorem cut_to {ds : List D} {i : Int} (h : 0 ≤ i) : cutD ds none (some i) = ds.take i.toNat := by
  have e : HT.sIx ds.length ds.length (some i) = min i.toNat ds.length := by
    have := HT.sIx_nat ds.length ds.length i.toNat
    rwa [Int.toNat_of_nonneg h] at this
  unfold cutD
  rw [e, HT.sIx_none, List.drop_zero, Nat.sub_zero, List.take_eq_take_iff]
  omega
/-! ## lists that are kept apart, seen as lists for a while -/
mutual
def D.shut : D → Bool
  | .own _ => false
  | .lst xs => D.shuts xs
  | .tup xs => D.shuts xs
  | .dct _ xs => D.shuts xs
  | .non => true
  | .bl _ => true
  | .int _ => true
  | .str _ => true
  | .ref _ => true
  | .ty _ => true
  | .exn _ => true
  | .scr _ => true
  | .ins _ _ xs => D.shuts xs
  | .exc _ _ _ xs => D.shuts xs
  | .exv _ _ xs => D.shuts xs
def D.shuts : List D → Bool
  | [] => true
  | d :: ds => d.shut && D.shuts ds
end
mutual
def D.res (st : State) : D → D
  | .own j => match st[j]? with
    | some ds => viewL ds
    | none => .own j
  | .lst xs => .lst (D.ress st xs)
  | .tup xs => .tup (D.ress st xs)
  | .dct ks xs => .dct ks xs
  | .non => .non
  | .bl b => .bl b
  | .int i => .int i
  | .str x => .str x
  | .ref a => .ref a
  | .ty n => .ty n
  | .exn C => .exn C
  | .scr ns => .scr ns
  | .ins C ks xs => .ins C ks xs
  | .exc a d ks xs => .exc a d ks xs
  | .exv C ks xs => .exv C ks xs
def D.ress (st : State) : List D → List D
  | [] => []
  | d :: ds => d.res st :: D.ress st ds
end
section
variable {K : PySem.W.Frag} {W : List Addr} {A : List Addr} {H : Hp}

end
section
variable {K : PySem.W.Frag} {hid W : List Addr} {st : State} {H : Hp}

end
/-- results that name no place -/
def scalD : D → Bool
  | .non => true
  | .bl _ => true
  | .int _ => true
  | .str _ => true
  | _ => false
theorem scal_rp {K : PySem.W.Frag} {W W' : List Addr} {h h' : Hp} {v : V} {d : D} (s : scalD d = true) (r : Rp K W h v d) : Rp K W' h' v d := by
  cases r <;> first | exact .non | exact .bl _ | exact .int _ | exact .str _ | cases s
section
variable {K : PySem.W.Frag} {hid W : List Addr} {st : State} {H H' : Hp}
theorem Good.none : Good K [] [] [] H := ⟨List.nodup_nil, fun _ z => (nomatch z), rfl, fun _ z => (nomatch z), fun j a ds z _ => by simp at z⟩
/-- nothing that stood is changed: all stays good -/
theorem Good.all (g : Good K hid W st H) (hh : ∀ a o, H a = some o → H' a = some o) : Good K hid W st H' ∧ Gr W H W H' := by
  refine ⟨⟨g.nd, g.dis, g.len, fun a ha z => ?_, fun j a ds h1 h2 => ?_⟩, fun _ _ e => e, fun _ h => .inl h, fun a o _ e => hh a o e, fun a o _ e => ⟨o, hh a o e, rfl⟩⟩
  · cases e : H a with
    | none => exact g.dom a ha e
    | some o => rw [hh a o e] at z; cases z
  · have o := g.own j a ds h1 h2
    obtain ⟨_, h3, _⟩ := o.what
    exact o.move ((hh _ _ h3).trans h3.symm) (fun _ _ e => e) (fun b o e => by rw [hd_some] at e ⊢; exact ⟨e.1, hh _ _ e.2⟩)
theorem Gr.allOf {W' : List Addr} (x : Gr [] H W' H') : ∀ a o, H a = some o → H' a = some o := fun a o e => x.keep a o (fun z => nomatch z) e
end
section
variable {X : Cx} {ps : List Str} {k n : Nat} {fm : List D → State → Option (D × State)} {x : Str} {p pos : Pos} {e : Expr} {es : List Expr} {mA : MA}
/-! ## (a, b, ..) = a list -/
end
/-! ## tables -/
section
variable {X : Cx} {d : Addr} {es : Array DictEntry} {n : Nat} {t : Tbl} {x : Str} {e f : Expr} {p apos cpos : Pos} {me mf : ME} {ty tx : TE}
end
/-! ## a written dict of numbers by texts, asked at once -/
section
variable {X : Cx} {i : Expr} {mi : ME} {pos dpos : Pos}
end
section
variable {ρ : Store} {st st' : State} {QE : D × State → Prop}
theorem ok_and {a b : ME} {x : Bool} (e : a ρ st = some (.bl x, st')) (h1 : x = true → OK (b ρ st') QE) (h2 : x = false → QE (.bl false, st')) : OK (mAnd a b ρ st) QE := by
  unfold mAnd
  rw [e, Option.bind_some]
  cases x with
  | true => exact h1 rfl
  | false => exact ok_some.mpr (h2 rfl)
theorem tOf_v {a : ME} {x : Bool} (e : a ρ st = some (.bl x, st')) : tOf a ρ st = some (x, st') := by
  unfold tOf
  rw [e]
  rfl
end
/-! ## steps that need no thought (printed by pp.py for `~~`) -/
theorem ex_int {k : Int} {P : Int → Prop} (h : P k) : ∃ i, D.int k = D.int i ∧ P i := ⟨k, rfl, h⟩
theorem ex_bl {k : Bool} {P : Bool → Prop} (h : P k) : ∃ i, D.bl k = D.bl i ∧ P i := ⟨k, rfl, h⟩
theorem ex_lst {k : List D} {P : List D → Prop} (h : P k) : ∃ i, D.lst k = D.lst i ∧ P i := ⟨k, rfl, h⟩
theorem ex_tup {k : List D} {P : List D → Prop} (h : P k) : ∃ i, D.tup k = D.tup i ∧ P i := ⟨k, rfl, h⟩
theorem if_t {A B : Prop} (h : A) : if true = true then A else B := h
theorem if_f {A B : Prop} (h : B) : if false = true then A else B := h
theorem if_nt {A B : Prop} (h : B) : if (!true) = true then A else B := h
section
variable {n i : Nat} {ρ : Store} {st st' : State} {QS : Out × State → Prop} {QE : D × State → Prop} {QA : List D × State → Prop} {QT : Bool × State → Prop} {Q1 : D → Prop} {a b c : ME} {s t : MT}
/-- what comes behind a statement; at a def's end -/
def Aft (b : MS) (n : Nat) (Q : Out × State → Prop) (p : Out × State) : Prop := match p.1 with
  | .next ρ' => OK (b n ρ' p.2) Q
  | o => Q (o, p.2)
def Fin (Q : D × State → Prop) (p : Out × State) : Prop := match p.1 with
  | .ret d => Q (d, p.2)
  | .next _ => Q (.non, p.2)
  | _ => False
theorem ok_sq {a b : MS} (h : OK (a n ρ st) (Aft b n QS)) : OK (sSeq a b n ρ st) QS := ok_seq h
theorem aft_n {b : MS} (h : OK (b n ρ st) QS) : Aft b n QS (.next ρ, st) := h
theorem fin_r {d : D} (h : QE (d, st)) : Fin QE (.ret d, st) := h
theorem ok_f1 {k : Nat} {m : MS} {d : D} (h : OK (m st.length (some d :: List.replicate (k - 1) none) st) (Fin QE)) : OK (fnM k m [d] st) QE := ok_fn h
theorem ok_f2 {k : Nat} {m : MS} {d e : D} (h : OK (m st.length (some d :: some e :: List.replicate (k - 2) none) st) (Fin QE)) : OK (fnM k m [d, e] st) QE := ok_fn h
theorem ok_varE (h : ∃ d, ρ[i]? = some (some d) ∧ QE (d, st)) : OK (mVar i ρ st) QE := let ⟨_, e, q⟩ := h; ok_var e q
theorem ok_tOf (h : OK (a ρ st) fun p => ∃ b, p.1 = .bl b ∧ QT (b, p.2)) : OK (tOf a ρ st) QT := by
  obtain ⟨⟨d, s⟩, e, b, rfl, q⟩ := h
  exact ⟨_, tOf_v e, q⟩
theorem ok_tNot (h : OK (t ρ st) fun p => QT (!p.1, p.2)) : OK (tNotM t ρ st) QT := by
  unfold tNotM
  exact ok_map.mpr h
theorem ok_tOr (h : OK (s ρ st) fun p => if p.1 = true then QT (true, p.2) else OK (t ρ p.2) QT) : OK (tOrM s t ρ st) QT := by
  obtain ⟨⟨c, s1⟩, e, q⟩ := h
  unfold tOrM
  rw [e, Option.bind_some]
  cases c with
  | true => exact ok_some.mpr q
  | false => exact q
theorem ok_mAnd (h : OK (a ρ st) fun p => ∃ b', p.1 = .bl b' ∧ if b' = true then OK (b ρ p.2) QE else QE (.bl false, p.2)) : OK (mAnd a b ρ st) QE := by
  obtain ⟨⟨d, s⟩, e, b', rfl, q⟩ := h
  refine ok_and e (fun z => ?_) fun z => ?_
  · rw [if_pos z] at q; exact q
  · rw [if_neg (by rw [z]; exact Bool.false_ne_true)] at q; exact q
theorem ok_own {m : MA} (h : OK (m ρ st) fun p => few p.1.length = true ∧ QE (.own p.2.length, p.2 ++ [p.1])) : OK (mOwn m ρ st) QE := by
  unfold mOwn
  rw [ok_bind]
  exact h.mono fun p q => by rw [if_pos q.1]; exact ok_some.mpr q.2
theorem ok_iTup (h : OK (a ρ st) fun p => ∃ ds, p.1 = .tup ds ∧ QA (ds, p.2)) : OK (iTupM a ρ st) QA := by
  obtain ⟨⟨d, s⟩, e, ds, rfl, q⟩ := h
  unfold iTupM
  rw [e]
  exact ok_some.mpr q
theorem ok_subI {i k : Int} (q : Q1 (.int (i - k))) : OK (subI st (.int i) (.int k)) Q1 := ⟨_, rfl, q⟩
theorem ok_eqS {i k : Str} (q : Q1 (.bl (decide (i = k)))) : OK (eqA st (.str i) (.str k)) Q1 := ⟨_, eqA_str, q⟩
theorem ok_ixL {l : List D} {k : Int} (h : ∃ d, atI l k = some d ∧ Q1 d) : OK (ixD st (.lst l) (.int k)) Q1 := h
theorem ok_gName {d : D} {Q : Store → Prop} (q : Q (ρ.set i (some d))) : OK (gNameM i d ρ) Q := ⟨_, rfl, q⟩
theorem ok_drop (h : OK (a ρ st) fun p => QS (.next ρ, p.2)) : OK (sDrop a n ρ st) QS := by
  unfold sDrop
  exact ok_map.mpr h
end
/-- a for by an invariant that counts -/
theorem ok_forC {g : MG} {b : MS} {n : Nat} {I : Nat → Store → State → Prop} {R : D → State → Prop} : ∀ (items : List D) (k0 : Nat) (ρ : Store) (st : State), I k0 ρ st →
    (∀ d ∈ items, ∀ k ρ st, k < k0 + items.length → I k ρ st → OK (g d ρ) fun ρ2 => OK (b n ρ2 st) fun p => match p.1 with
      | .next ρ3 => I (k + 1) ρ3 p.2
      | .cont ρ3 => I (k + 1) ρ3 p.2
      | .brk ρ3 => False
      | .ret d => R d p.2) →
    OK (forM g b n items ρ st) fun p => match p.1 with
      | .next ρ3 => I (k0 + items.length) ρ3 p.2
      | .ret d => R d p.2
      | _ => False
  | [], k, ρ, st, hi, _ => by
    unfold forM
    exact ok_some.mpr hi
  | d :: r, k, ρ, st, hi, h => by
    have e : k + (d :: r).length = k + 1 + r.length := by rw [List.length_cons]; omega
    unfold forM
    rw [ok_bind]
    refine (h d List.mem_cons_self k ρ st (by omega) hi).mono fun ρ2 h2 => ?_
    rw [ok_bind]
    refine h2.mono fun p hp => ?_
    have ih := fun ρ st hi => ok_forC r (k + 1) ρ st hi fun d hd k ρ st hk => h d (List.mem_cons_of_mem _ hd) k ρ st (by omega)
    rw [e]
    obtain ⟨o, s⟩ := p
    cases o with
    | next ρ3 => exact ih ρ3 s hp
    | cont ρ3 => exact ih ρ3 s hp
    | brk ρ3 => exact hp.elim
    | ret d => exact ok_some.mpr hp
/-! ## comprehensions that ask -/
section
variable {i : Nat} {ρ : Store} {st : State} {src : MA} {e : ME} {t : MT} {p : D → Bool} {QE : D × State → Prop}
end
/-! ## fine data is closed -/


/-! ## lists that a def made for itself become plain lists where it returns -/
mutual
def D.rz (n : Nat) (st : State) : D → D
  | .own j => if j < n then .own j else match st[j]? with
    | some ds => viewL ds
    | none => .own j
  | .lst xs => .lst (D.rzs n st xs)
  | .tup xs => .tup (D.rzs n st xs)
  | .dct ks xs => .dct ks (D.rzs n st xs)
  | .non => .non
  | .bl b => .bl b
  | .int i => .int i
  | .str x => .str x
  | .ref a => .ref a
  | .ty n => .ty n
  | .exn C => .exn C
  | .scr ns => .scr ns
  | .ins C ks xs => .ins C ks (D.rzs n st xs)
  | .exc a d ks xs => .exc a d ks (D.rzs n st xs)
  | .exv C ks xs => .exv C ks (D.rzs n st xs)
def D.rzs (n : Nat) (st : State) : List D → List D
  | [] => []
  | d :: ds => d.rz n st :: D.rzs n st ds
end
mutual
def D.low (n : Nat) : D → Bool
  | .own j => decide (j < n)
  | .lst xs => D.lows n xs
  | .tup xs => D.lows n xs
  | .dct _ xs => D.lows n xs
  | .non => true
  | .bl _ => true
  | .int _ => true
  | .str _ => true
  | .ref _ => true
  | .ty _ => true
  | .exn _ => true
  | .scr _ => true
  | .ins _ _ xs => D.lows n xs
  | .exc _ _ _ xs => D.lows n xs
  | .exv _ _ xs => D.lows n xs
def D.lows (n : Nat) : List D → Bool
  | [] => true
  | d :: ds => d.low n && D.lows n ds
end
section
variable {K : PySem.W.Frag} {W W' : List Addr} {h : Hp} {st : State} {n : Nat}
/-- lists that are kept apart, seen as lists: h shows them -/
structure Shows (K : PySem.W.Frag) (W : List Addr) (h : Hp) (n : Nat) (st : State) : Prop where
  at' : ∀ (j : Nat) (a : Addr) (ds : List D), n ≤ j → W[j]? = some a → st[j]? = some ds → OwnRp K W h h a ds
mutual
theorem rp_rz (S : Shows K W h n st) : ∀ (d : D) (v : V), Rp K W h v d → Rp K W h v (d.rz n st)
  | .non, _, .non => by simp only [D.rz]; exact .non
  | .bl _, _, .bl b => by simp only [D.rz]; exact .bl b
  | .int _, _, .int b => by simp only [D.rz]; exact .int b
  | .str _, _, .str b => by simp only [D.rz]; exact .str b
  | .lst ds, _, .lst h1 h2 => by simp only [D.rz]; exact .lst h1 (rps_rz S ds _ h2)
  | .tup ds, _, .tup h1 h2 => by simp only [D.rz]; exact .tup h1 (rps_rz S ds _ h2)
  | .dct _ ds, _, .dct h1 h2 => by simp only [D.rz]; exact .dct h1 (rps_rz S ds _ h2)
  | .own j, _, .own h1 => by
    simp only [D.rz]
    split
    · exact .own h1
    · rename_i hj
      cases e : st[j]? with
      | none => exact .own h1
      | some ds =>
        obtain ⟨xs, h3, h4⟩ := S.at' j _ ds (by omega) h1 e
        exact holds_view h3 h4 rfl fun _ _ z => z
  | .ref _, _, .ref a => by simp only [D.rz]; exact .ref a
  | .ty _, _, .ty a => by simp only [D.rz]; exact .ty a
  | .exn _, _, .exn h => by simp only [D.rz]; exact .exn h
  | .scr _, _, .scr h => by simp only [D.rz]; exact .scr h
  | .ins _ _ ds, _, .ins h1 h2 h3 => by simp only [D.rz]; exact .ins h1 h2 (rps_rz S ds _ h3)
  | .exc _ _ _ ds, _, .exc h1 h3 => by simp only [D.rz]; exact .exc h1 (rps_rz S ds _ h3)
  | .exv _ _ ds, _, .exv h1 h2 h3 => by simp only [D.rz]; exact .exv h1 h2 (rps_rz S ds _ h3)
  | .exv _ _ _, _, .exv0 h1 => by simp only [D.rz, D.rzs]; exact .exv0 h1
  | .exc _ _ _ _, _, .exc0 => by simp only [D.rz, D.rzs]; exact .exc0
theorem rps_rz (S : Shows K W h n st) : ∀ (ds : List D) (vs : List V), RpAll K W h vs ds → RpAll K W h vs (D.rzs n st ds)
  | [], _, .nil => by simp only [D.rzs]; exact .nil
  | d :: ds, _, .cons h1 h2 => by simp only [D.rzs]; exact .cons (rp_rz S d _ h1) (rps_rz S ds _ h2)
end
mutual
theorem rp_low (hW : ∀ (j : Nat) (a : Addr), j < n → W[j]? = some a → W'[j]? = some a) : ∀ (d : D) (v : V), d.low n = true → Rp K W h v d → Rp K W' h v d
  | .non, _, _, .non => .non
  | .bl _, _, _, .bl b => .bl b
  | .int _, _, _, .int b => .int b
  | .str _, _, _, .str b => .str b
  | .lst ds, _, p, .lst h1 h2 => .lst h1 (rps_low hW ds _ (by simpa only [D.low] using p) h2)
  | .tup ds, _, p, .tup h1 h2 => .tup h1 (rps_low hW ds _ (by simpa only [D.low] using p) h2)
  | .dct _ ds, _, p, .dct h1 h2 => .dct h1 (rps_low hW ds _ (by simpa only [D.low] using p) h2)
  | .own j, _, p, .own h1 => .own (hW _ _ (of_decide_eq_true (by simpa only [D.low] using p)) h1)
  | .ref _, _, _, .ref a => .ref a
  | .ty _, _, _, .ty a => .ty a
  | .exn _, _, _, .exn h => .exn h
  | .scr _, _, _, .scr h => .scr h
  | .ins _ _ ds, _, p, .ins h1 h2 h3 => .ins h1 h2 (rps_low hW ds _ (by simpa only [D.low] using p) h3)
  | .exc _ _ _ ds, _, p, .exc h1 h3 => .exc h1 (rps_low hW ds _ (by simpa only [D.low] using p) h3)
  | .exv _ _ ds, _, p, .exv h1 h2 h3 => .exv h1 h2 (rps_low hW ds _ (by simpa only [D.low] using p) h3)
  | .exv _ _ _, _, _, .exv0 h1 => .exv0 h1
  | .exc _ _ _ _, _, _, .exc0 => .exc0
theorem rps_low (hW : ∀ (j : Nat) (a : Addr), j < n → W[j]? = some a → W'[j]? = some a) : ∀ (ds : List D) (vs : List V), D.lows n ds = true → RpAll K W h vs ds → RpAll K W' h vs ds
  | [], _, _, .nil => .nil
  | d :: ds, _, p, .cons h1 h2 => by
    simp only [D.lows, Bool.and_eq_true] at p
    exact .cons (rp_low hW d _ p.1 h1) (rps_low hW ds _ p.2 h2)
end

end
section
variable {K : PySem.W.Frag} {hid W W' : List Addr} {st st' : State} {H H' : Hp}
end
section
variable {P : Program} {w : World} {K : PySem.W.Frag} {mg : Str → Option Value} {k : Nat} {x : Str} {s0 : Stmt} {N ps : List Str} {m : MS}
end
/-! in plain Lean -/
section
variable {st : State} {QE : D × State → Prop}
end


/-! ## xs.append(x), xs.extend(ys) on a list that is kept apart -/
def mApp (o e : ME) : ME := fun ρ st => (o ρ st).bind fun p => match p.1 with
  | .own j => (lat p.2 j).bind fun _ => (e ρ p.2).bind fun q => (lat q.2 j).bind fun ds => if few ds.length = true then some (.non, q.2.set j (ds ++ [q.1])) else none
  | _ => none
section
variable {X : Cx} {o e : Expr} {mo me : ME} {apos cpos : Pos}
theorem d_app (ho : ED X o mo) (he : ED X e me) (hbase : attributeBase o "append" X.env (eval o X.env) = eval o X.env := by rfl)
    (hfew : ((backTo cpos (starEach [e] X.env)).all (fun x => !x.1) && (backToKw cpos (keywordEach [] X.env)).all (fun x => x.1.isSome) && decide (([e] : List Expr).length + ([] : List Keyword).length + (if ([] : List Keyword).isEmpty then 0 else 1) < 30)) = true := by rfl)
    (hline : (apos.endLine == cpos.line) = true := by rfl) (hs : starEach [e] X.env = [(false, eval e X.env)] := by rfl) (hplain : (backTo cpos (starEach [] X.env)).any (·.1) = false := by rfl) :
    ED X (.Call (.Attribute o "append" apos) [e] [] cpos) (mApp mo me) := by
  obtain ⟨_, p1, q1⟩ := ho.ex
  obtain ⟨_, p2, q2⟩ := he.ex
  refine ⟨_, pe_bm PySem.F.plainAttrs_list PySem.F.slot_list_append PySem.F.type_list_append mt_append p1 (pa_cons p2 pa_nil hs) hbase hfew hline hs hplain, ?_⟩
  intro hid W st H ρ σ d st' g rs e Q q
  obtain ⟨⟨x, s1⟩, e1, e⟩ := Option.bind_eq_some_iff.mp e
  refine q1 hid W st H ρ σ x s1 g rs e1 _ fun W1 v1 H1 g1 o1 r1 => ?_
  match x, r1, e with
  | .own j, .own (a := a) hj, e =>
    obtain ⟨ds0, e0, e⟩ := Option.bind_eq_some_iff.mp e
    obtain ⟨⟨y, s2⟩, e2, e⟩ := Option.bind_eq_some_iff.mp e
    obtain ⟨ds, e3, e⟩ := Option.bind_eq_some_iff.mp e
    split at e
    · rename_i hf
      cases e
      obtain ⟨xs1, hx1, _⟩ := o1.lat hj e0
      refine ⟨.inl ⟨rfl, xs1, SqL.of hx1⟩, ?_⟩
      refine q2 hid W1 s1 H1 ρ σ y s2 o1 (g1.rs rs) e2 _ fun W2 v2 H2 g2 o2 r2 => ?_
      have hj2 := g2.pre j a hj
      obtain ⟨xs, hx, rx⟩ := o2.lat hj2 e3
      have hl : xs.length < sizeLine := by rw [rx.length]; exact few_lt hf
      refine ⟨a, xs, v2, rfl, rfl, hx, hl, ?_⟩
      obtain ⟨z1, z2, z3⟩ := o2.store hj2 hx (rx.append (.cons r2 .nil))
      exact q W2 _ _ (g1.trans (g2.trans z1)) z2 .non
    · cases e
end
/-! ## isinstance(x, (A, B)) -/
section
variable {X : Cx} {e : Expr} {me : ME}
end
/-! ## a walk over a list or a tuple -/
section
variable {X : Cx} {tg e : Expr} {me : ME}
end
/-! ## zip of two tuples -/
section
variable {X : Cx} {e e2 : Expr} {mA : MA} {p pos tpos : Pos} {elts : List Expr} {kk : Nat}
end
/-! ## an object that is under way -/
section
variable {K : PySem.W.Frag} {hid W W2 : List Addr} {st : State} {H H2 : Hp} {p : Addr} {o o' : HO}
theorem good_hide (g : Good K hid W st H) (hp : H p = none) : Good K (p :: hid) W st (upd H p o) := by
  have g2 := g.new1 (o := o) hp
  refine ⟨g2.nd, fun a ha z => (List.mem_cons.mp z).elim (fun e => by
      obtain ⟨xs, q, _⟩ := g.at ha
      rw [e, hp] at q; cases q) (g.dis a ha), g2.len, fun a ha => ?_, fun j a es h1 h2 => ?_⟩
  · rcases List.mem_cons.mp ha with z | z
    · rw [z, upd_same]; exact Option.some_ne_none _
    · exact g2.dom a z
  · have o := g.own j a es h1 h2
    obtain ⟨_, e, _⟩ := o.what
    exact o.move (upd_ne (ne_of_none e hp)) (fun _ _ z => z) (hd_in hp)
theorem Gr.inner (hp : H p = none) (G : Gr W (upd H p o) W2 H2) : Gr W H W2 (upd H2 p o') := by
  refine ⟨G.pre, fun a ha => ?_, fun a u h1 h2 => ?_, fun a u h1 h2 => ?_⟩
  rotate_left 2
  · have hne := ne_of_none h2 hp
    obtain ⟨u', e1, k⟩ := G.kin a u h1 (by rw [upd_ne hne]; exact h2)
    exact ⟨u', by rw [upd_ne hne]; exact e1, k⟩
  · rcases G.new a ha with z | z
    · exact .inl z
    · by_cases e : a = p
      · rw [e]; exact .inr hp
      · rw [upd_ne e] at z; exact .inr z
  · have hne := ne_of_none h2 hp
    rw [upd_ne hne]
    exact G.keep a u h1 (by rw [upd_ne hne]; exact h2)
theorem Gr.off (hp : H p = none) (hW : p ∉ W) (G : Gr W (upd H p o) W2 H2) : p ∉ W2 := fun h => by
  rcases G.new p h with z | z
  · exact hW z
  · rw [upd_same] at z; cases z
theorem Gr.same (hp : H p = none) (hW : p ∉ W) (G : Gr W (upd H p o) W2 H2) : H2 p = some o := G.keep p o hW upd_same
end
/-! ## what a dict of data holds -/
section
variable {X : Cx} {o i e f : Expr} {mo mi me mf : ME} {pos apos cpos : Pos}
end
/-! ## {'a': x, ..} -/
def EvP (K : PySem.W.Frag) (trs : List (TE × TE)) (ks : List Str) (m : MA) : Prop := ∀ (hid W : List Addr) (st : State) (H : Hp) (ρ : Store) (σ : L2.St) (ds : List D) (st' : State), Good K hid W st H → Rs K W (hd (hid ++ W) H) ρ σ → m ρ st = some (ds, st') →
  ∀ Q : List (V × V) → Hp → Prop, (∀ W' vs H', Gr W H W' H' → Good K hid W' st' H' → RpAll K W' (hd (hid ++ W') H') vs ds → vs.length = ks.length → Q ((ks.zip vs).map fun q => (V.str q.1, q.2)) H') → tPairs trs σ H Q
structure PrsD (X : Cx) (pos : Pos) (keys : List (Option Expr)) (values : List Expr) (ks : List Str) (m : MA) : Prop where
  ex : ∃ trs, PPs X pos keys values trs ∧ EvP X.K trs ks m
section
variable {X : Cx} {pos kp : Pos} {keys : List (Option Expr)} {values : List Expr} {ks : List Str} {e : Expr} {me : ME} {mA : MA}
theorem prs_nil : PrsD X pos [] [] [] aNil := ⟨_, pps_nil, fun hid W st H ρ σ ds st' g rs e Q q => by cases e; exact q W [] H Gr.refl g .nil rfl⟩
theorem prs_cons {k : Str} {j : Nat} (he : ED X e me) (hr : PrsD X pos keys values ks mA) : PrsD X pos (some (.Constant (.str k) j kp) :: keys) (e :: values) (k :: ks) (aCons me mA) := by
  obtain ⟨_, p1, q1⟩ := he.ex
  obtain ⟨_, p2, q2⟩ := hr.ex
  refine ⟨_, pps_cons pe_str p1 p2, ?_⟩
  intro hid W st H ρ σ ds st' g rs e Q q
  obtain ⟨⟨x, s1⟩, e1, e⟩ := Option.bind_eq_some_iff.mp e
  obtain ⟨⟨ys, s2⟩, e2, e4⟩ := Option.map_eq_some_iff.mp e
  cases e4
  refine q1 hid W st H ρ σ x s1 g rs e1 _ fun W1 v1 H1 g1 o1 r1 => ?_
  refine q2 hid W1 s1 H1 ρ σ ys s2 o1 (g1.rs rs) e2 _ fun W2 vs H2 g2 o2 r2 hl => ?_
  exact q W2 (v1 :: vs) H2 (g1.trans g2) o2 (.cons (g2.rp r1) r2) (by rw [List.length_cons, List.length_cons, hl])
end
theorem merge_new : ∀ (more kvs : List (L2.Key × V)), (more.map (·.1)).Nodup → (∀ q ∈ more, ∀ r ∈ kvs, r.1 ≠ q.1) → mergeK kvs more = kvs ++ more
  | [], kvs, _, _ => by show kvs = kvs ++ []; rw [List.append_nil]
  | q :: more, kvs, hn, hd => by
    rw [List.map_cons, List.nodup_cons] at hn
    have e : putK kvs q.1 q.2 = kvs ++ [(q.1, q.2)] := by
      unfold putK
      rw [if_neg]
      intro h
      obtain ⟨r, hr, hq⟩ := List.any_eq_true.mp h
      exact hd q List.mem_cons_self r hr (of_decide_eq_true hq)
    show mergeK (putK kvs q.1 q.2) more = _
    rw [e, merge_new more _ hn.2, List.append_assoc]
    · rfl
    · intro q' hq' r hr
      rcases List.mem_append.mp hr with hr | hr
      · exact hd q' (List.mem_cons_of_mem _ hq') r hr
      · rw [List.mem_singleton.mp hr]
        intro z
        exact hn.1 (List.mem_map.mpr ⟨q', hq', z.symm⟩)
/-- the new dict, still under way -/
theorem dct_walk {K : PySem.W.Frag} {trs : List (TE × TE)} {ks : List Str} {mA : MA} (q1 : EvP K trs ks mA) (hn : ks.Nodup) (h15 : ks.length ≤ 15)
    {hid W : List Addr} {st : State} {H : Hp} {ρ : Store} {σ : L2.St} {ds : List D} {s1 : State} (g : Good K hid W st H) (rs : Rs K W (hd (hid ++ W) H) ρ σ) (e1 : mA ρ st = some (ds, s1))
    {Q : VK} (q : ∀ W1 H1 p kvs, Gr W (upd H p (.dK [])) W1 H1 → Good K (p :: hid) W1 s1 H1 → p ∉ W → p ∉ hid → H p = none → kvs.map (·.1) = ks.map Sum.inr → RpAll K W1 (hd ((p :: hid) ++ W1) H1) (kvs.map (·.2)) ds → Q (.ref p) (upd H1 p (.dK kvs))) : tDisp trs σ H Q := by
  intro p hp
  have off := g.off hp
  rw [List.mem_append, not_or] at off
  refine q1 (p :: hid) W st _ ρ σ ds s1 (good_hide g hp) ⟨rs.1, fun i d hi => let ⟨v, z1, z2⟩ := rs.2 i d hi; ⟨v, z1, Rp.mono (fun _ _ z => z) (hd_in hp) _ _ z2⟩⟩ e1 _ fun W1 vs H1 g1 o1 r1 hl => ?_
  refine ⟨g1.same hp off.2, (ks.zip vs).map fun q => (Sum.inr q.1, q.2), ?_, ?_, ?_⟩
  · rw [List.map_map]
    rfl
  · rw [List.length_map, List.length_zip]
    omega
  · have h1 : ((ks.zip vs).map fun q => ((Sum.inr q.1 : L2.Key), q.2)).map (·.1) = ks.map Sum.inr := by
      rw [List.map_map]
      show (ks.zip vs).map (Sum.inr ∘ Prod.fst) = _
      rw [← List.map_map, List.map_fst_zip (by omega)]
    have h2 : ((ks.zip vs).map fun q => ((Sum.inr q.1 : L2.Key), q.2)).map (·.2) = vs := by
      rw [List.map_map]
      show (ks.zip vs).map Prod.snd = _
      rw [List.map_snd_zip (by omega)]
    rw [merge_new _ [] (by rw [h1]; exact List.Pairwise.map _ (fun a b h z => h (Sum.inr.inj z)) hn) (fun _ _ _ z => nomatch z), List.nil_append]
    exact q W1 H1 p _ g1 o1 off.2 off.1 hp h1 (by rw [h2]; exact r1)
section
variable {X : Cx} {pos : Pos} {keys : List (Option Expr)} {values : List Expr} {ks : List Str} {mA : MA}
end
section
open PySem.AutoSeq1 PySem.MeetsSeq PySem.MeetsSeq2 PySem.MeetsSeq3
end
section
variable {X : Cx} {o e : Expr} {mo me : ME} {apos cpos : Pos}
end
/-! ## new lists that are kept apart: a comprehension, list(x), x + y -/
section
variable {X : Cx} {elt tg iter : Expr} {ifs : List Expr} {scope : Scope} {own : List (Str × Nat)} {pos : Pos} {src : MA} {us : List Nat} {g : MG} {t : MT} {me : ME}
end
section
variable {X : Cx} {a b e : Expr} {ma mb me : ME} {p pos : Pos}
end
/-! ## x, y, z = a, b, c of plain local names -/
def sPar3 (i j l : Nat) (a : MA) : MS := fun _ ρ st => (a ρ st).bind fun p => match p.1 with
  | [x, y, z] => some (.next (((ρ.set i (some x)).set j (some y)).set l (some z)), p.2)
  | _ => none
theorem s_par3 {X : Cx} {pos : Pos} {i j l : Nat} {x y z : Str} {a b c : Expr} {mA : MA} {px py pz pt : Pos} {kt k2 pt2} (hc : X.calm = true) (hN : X.N.Nodup) (hi : X.N[i]? = some x) (hj : X.N[j]? = some y) (hl : X.N[l]? = some z) (hij : i ≠ j) (hil : i ≠ l) (hjl : j ≠ l)
    (hx : X.env.scope.names.lookup x = some .local) (hy : X.env.scope.names.lookup y = some .local) (hz : X.env.scope.names.lookup z = some .local) (ha : AD X [a, b, c] mA)
    (hw : swappedStores [.Tuple [.Name x px, .Name y py, .Name z pz] kt pt] (.Tuple [a, b, c] k2 pt2) X.env = pure (some [x, y, z]) := by rfl)
    (hs : swapsWithSole [.Tuple [.Name x px, .Name y py, .Name z pz] kt pt] (.Tuple [a, b, c] k2 pt2) pos.line X.env = pure false := by rfl) :
    SD X (.Assign [.Tuple [.Name x px, .Name y py, .Name z pz] kt pt] (.Tuple [a, b, c] k2 pt2) pos) (sPar3 i j l mA) := by
  obtain ⟨_, p1, q1⟩ := ha.ex
  refine ⟨_, ps_par3 hc hN hi hj hl hij hil hjl hx hy hz p1 hw hs, ?_⟩
  intro hid W0 H0 W st H ρ σ o st' G g rs e E q
  obtain ⟨⟨ds, s1⟩, e1, e⟩ := Option.bind_eq_some_iff.mp e
  refine q1 hid W st H ρ σ ds s1 g rs e1 _ fun W1 vs H1 g1 o1 r1 => ?_
  match ds, r1, e with
  | [d1, d2, d3], .cons (v := v1) h1 (.cons (v := v2) h2 (.cons (v := v3) h3 .nil)), e =>
    cases e
    exact ⟨v1, v2, v3, rfl, q W1 _ H1 (G.trans g1) o1 ((((g1.rs rs).set h1 i).set h2 j).set h3 l)⟩
theorem ex_three {a b c : D} {P : D → D → D → Prop} (h : P a b c) : ∃ x y z, [a, b, c] = [x, y, z] ∧ P x y z := ⟨a, b, c, rfl, h⟩
theorem ok_par3 {n : Nat} {ρ : Store} {st : State} {QS : Out × State → Prop} {i j l : Nat} {a : MA} (h : OK (a ρ st) fun p => ∃ x y z, p.1 = [x, y, z] ∧ QS (.next (((ρ.set i (some x)).set j (some y)).set l (some z)), p.2)) : OK (sPar3 i j l a n ρ st) QS := by
  unfold sPar3
  rw [ok_bind]
  refine h.mono fun p hp => ?_
  obtain ⟨x, y, z, e, q⟩ := hp
  obtain ⟨l', s⟩ := p
  cases (show l' = [x, y, z] from e)
  exact ok_some.mpr q
/-! ## defs that are told where the table of modules lies (repr of dicts wants it) -/
def SysB (h : Heap) : Prop := ∃ o es ep, h.get? sysModules = some o ∧ o.data = .dict es ep
def ReadyB (P : Program) (w : World) (K : PySem.W.Frag) (mg : Str → Option Value) (k : Nat) (x : Str) (ps : List Str) (n : Nat) (fm : List D → State → Option (D × State)) : Prop :=
  ∃ (a : Addr) (fd : FuncData), (∀ base : Heap, SysB base → FnG P w K mg base k a fd ps (spM K n fm)) ∧ mg x = some (.ref a) ∧ PySem.W.keepIn K (.ref a) = true ∧ Binds K fd ps [] ∧ ∀ (s : Shared) (us : List Value), us.length = ps.length → BindsTo s fd ⟨us, []⟩ (ps.zip us)
section
variable {P : Program} {w : World} {K : PySem.W.Frag} {mg : Str → Option Value} {k : Nat} {x : Str} {s0 : Stmt} {N ps : List Str} {m : MS}
theorem readyB (h : At K mg x s0) (S : FnScope N ps (defScope s0))
    (hbind : ∀ (kV doc pm : Value) (an : Option Addr) (cdv ct : Value) (us : List Value), us.length = ps.length → bindArgs (PySem.W.fnOf x x (defArgs s0) (defBody s0) (defScope s0) .none kV doc pm an cdv ct) ⟨us, []⟩ = pure (ps.zip us))
    (hb : ∀ (base : Heap) (hbs : SysB base) (f : Addr) (cdv : Value) (A : Around) (outer : List Env) (s : Shared) (H : Hp) (E : XK), Room k (A.deeper (envOfC x (defScope s0) s.heap.objs.size f cdv)) → A.guards = some [] → SsD (cxOf CX0 P w K mg base N x (defScope s0) f cdv A outer s H E).nox (defBody s0) m) :
    ReadyB P w K mg (k + 1) x ps ps.length (fnM N.length m) := by
  obtain ⟨a, fd, F, hm⟩ := h
  refine ⟨a, fd, fun base hbs => fn_D F S (hb base hbs a), hm, F.kp, F.binds hbind, fun s us hl => ?_⟩
  obtain ⟨oc, od, kV, doc, pm, an, cdv, ct, osl, rfl, _⟩ := F.ex
  exact .of_eq (hbind kV doc pm an cdv ct us hl)
end
section
variable {X : Cx} {ps : List Str} {k n : Nat} {fm : List D → State → Option (D × State)} {x : Str} {p pos : Pos} {e : Expr} {es : List Expr} {mA : MA}
theorem d_fnB (R : ReadyB X.prog X.w X.K X.mg k x ps n fm) (hbs : SysB X.base) (hr : Room k X.A) (gd : X.A.guards = some []) (hg : Gl X x)
    (ha : AD X (e :: es) mA) (hdb : (x == ("__debug__" : Str)) = false := by decide) (he : starEach (e :: es) X.env = (false, eval e X.env) :: starEach es X.env := by rfl) (hpl : (backTo pos (starEach es X.env)).any (·.1) = false := by rfl) :
    ED X (.Call (.Name x p) (e :: es) [] pos) (mCallN n fm mA) := by
  obtain ⟨a, fd, F, hm, hk, hb, _⟩ := R
  exact d_call (F X.base hbs) hr gd hg hm hk hb ha hdb he hpl
end
/-! the law's end -/
section
variable {P : Program} {w : World} {K : PySem.W.Frag} {mg mb : Str → Option Value} {k : Nat} {fa a : Addr} {fd : FuncData} {x : Str} {sp : Sp} {s₁ : Shared} {vs : List Value} {ns : List Int}
theorem law_coreB (H : Hp) (hsys : SysB s₁.heap) (KX : K.In s₁.heap) (hns : s₁.heap.Ns mainGlobals mg) (hb : s₁.heap.Ns builtinsNs mb) (hbb : ∀ x : Str, x ≠ "__name__" → mb x = bootBuiltins x) (hlim : s₁.heap.NoLimit) (hg : s₁.gens = #[])
    (ha : s₁.heap.get? a = some { cls := .type "list", data := .seq vs.toArray }) (hr : Room k callerA)
    (F : ∀ base : Heap, SysB base → FnG P w K mg base k fa fd [x] sp) (hbind : ∀ (s : Shared) (u : Value), BindsTo s fd ⟨[u], []⟩ [(x, u)])
    (hsp : sp [.ref a] H (fun v _ => v = .bl true) fun _ _ _ => False) (hO : Only H) (hok : HOk P w H s₁.heap) (only : ∀ b, H b ≠ none → b = a) (off : H a ≠ none → K.lookup a = none) :
    codeAny (model P w) callerA (.call (.ref fa) ⟨[.ref a], []⟩) (Told s₁) s₁ := by
  -- nothing of the namespaces and of K is hidden
  have clear : ∀ {b : Addr} {m : Str → Option Value}, s₁.heap.Ns b m → (hidT s₁.heap H).Ns b m := by
    rintro b m ⟨o, es, ep, e, d, z⟩
    refine ⟨o, es, ep, hidT_get e ?_, d, z⟩
    cases q : H b with
    | none => rfl
    | some u =>
      obtain rfl := only b (by rw [q]; exact Option.some_ne_none _)
      rw [ha] at e
      cases e
      exact nomatch d
  have kin : K.In (hidT s₁.heap H) := by
    intro b o e
    refine hidT_get (KX b o e) ?_
    cases q : H b with
    | none => rfl
    | some u =>
      have hb' : H b ≠ none := by rw [q]; exact Option.some_ne_none _
      obtain rfl := only b hb'
      rw [off hb'] at e
      exact nomatch e
  have lim : (hidT s₁.heap H).NoLimit := by
    obtain ⟨mc, h1, h2⟩ := hlim
    exact ⟨mc, clear h1, h2⟩
  have e0 : Env0 P w K mg (hidT s₁.heap H) callerA [] s₁ H := by
    refine ⟨rfl, ⟨kin, clear hns, ⟨mb, clear hb, hbb⟩, lim⟩, fun b o e => of_hidT e, Nat.le_of_eq (hidT_size _ _), trivial, fun b z => ?_, hok, .of_eq hg⟩
    exact nomatch (show b ∈ ([] : List Addr) from z)
  have sysb : SysB (hidT s₁.heap H) := by
    obtain ⟨o, es, ep, e, d⟩ := hsys
    refine ⟨o, es, ep, hidT_get e ?_, d⟩
    cases q : H sysModules with
    | none => rfl
    | some u =>
      have z := only sysModules (by rw [q]; exact Option.some_ne_none _)
      rw [← z, e] at ha
      cases ha
      exact nomatch d
  have run := (F _ sysb).run callerA [] s₁ H ⟨[.ref a], []⟩ [.ref a] [.ref a] _ _ hr rfl e0 (hbind s₁ (.ref a)) (.cons rfl .nil) hsp
  refine codeAny_mono run fun r s' h => ?_
  rcases r with e | fl
  · exact False.elim h
  · cases fl with
    | ret u =>
      obtain ⟨v, H', os, bare, un, hok', rv, q⟩ := h
      obtain rfl : v = .bl true := q
      obtain rfl : u = Value.bool true := rv
      refine ⟨rfl, OldK.of_keep fun b o e => ?_, os, bare⟩
      rcases hO b with q | ⟨ob, xs, q⟩
      · exact un.keep b o e q (fun z => nomatch (show b ∈ ([] : List Addr) from z)) (fun z => nomatch z)
      · have z1 := (hok b _ q).1
        have z2 := (hok' b _ (un.frzs b ob _ q)).1
        rw [e] at z1
        cases z1
        exact z2
    | next => exact False.elim h
    | brk => exact False.elim h
    | cont => exact False.elim h
/-- the script as it is laid: tracked as known, or one of the module's objects -/
theorem law_callB (hsys : SysB s₁.heap) (KX : K.In s₁.heap) (hns : s₁.heap.Ns mainGlobals mg) (hb : s₁.heap.Ns builtinsNs mb) (hbb : ∀ x : Str, x ≠ "__name__" → mb x = bootBuiltins x) (hlim : s₁.heap.NoLimit) (hg : s₁.gens = #[])
    (ha : s₁.heap.get? a = some { cls := .type "list", data := .seq vs.toArray }) (hi : IntsAre vs ns) (hl : ns.length ≤ sizeLine) (hr : Room k callerA)
    (F : ∀ base : Heap, SysB base → FnG P w K mg base k fa fd [x] sp) (hbind : ∀ (s : Shared) (u : Value), BindsTo s fd ⟨[u], []⟩ [(x, u)])
    (hsp : ∀ H : Hp, Only H → SqL K H a (ns.map V.int) → sp [.ref a] H (fun v _ => v = .bl true) fun _ _ _ => False) :
    codeAny (model P w) callerA (.call (.ref fa) ⟨[.ref a], []⟩) (Told s₁) s₁ := by
  have rv := vals_ints hi
  cases hk : K.lookup a with
  | some o =>
    have e := KX a o hk
    rw [ha] at e
    cases e
    have hS : SqL K (fun _ => none) a (ns.map V.int) := .inr ⟨_, vs.toArray, _, hk, rfl, rfl, rfl, by rw [List.size_toArray, hi.length]; exact hl, by simpa using rv⟩
    have hO : Only (fun _ => none) := fun _ => .inl rfl
    exact law_coreB (fun _ => none) hsys KX hns hb hbb hlim hg ha hr F hbind (hsp _ hO hS) hO (fun b u z => nomatch (show (none : Option HO) = some u from z)) (fun b z => absurd rfl z) (fun z => absurd rfl z)
  | none =>
    let H : Hp := fun b => if b = a then some (.frz { cls := .type "list", data := .seq vs.toArray } (.lst (ns.map V.int))) else none
    have h1 : H a = some (.frz { cls := .type "list", data := .seq vs.toArray } (.lst (ns.map V.int))) := if_pos rfl
    have h0 : ∀ b, b ≠ a → H b = none := fun b hb => if_neg hb
    have hS : SqL K H a (ns.map V.int) := .inl (.inr ⟨_, h1⟩)
    have hO : Only H := fun b => if hb : b = a then .inr ⟨_, _, hb ▸ h1⟩ else .inl (h0 b hb)
    refine law_coreB H hsys KX hns hb hbb hlim hg ha hr F hbind (hsp _ hO hS) hO (fun b u z => ?_) (fun b z => ?_) (fun _ => hk)
    · by_cases hb : b = a
      · subst hb
        rw [h1] at z
        cases z
        exact ⟨ha, by rw [List.length_map]; exact hl, vs, _, rv, ha⟩
      · rw [h0 b hb] at z
        cases z
    · by_cases hb : b = a
      · exact hb
      · exact absurd (h0 b hb) z
end
/-- the law's end over a head by facts, where the table of modules is told -/
theorem walk_MB {l : PySem.W.OpenLaw} {n k : Nat} {q : Program} {loose : List Str} {XP : (Str → Option Value) → Heap → Prop} {YP : World → Heap → Prop} {d : DefRec} {x : Str}
    (hn : l.most = some n) (hn2 : n ≤ sizeLine) (hdf : d.params.defaults = []) (hname : d.name = "law") (hr : Room k callerA)
    (F : ∀ (w : World) (mg : Str → Option Value) (h : Heap), YP w h → h.Ns mainGlobals mg → SysB h ∧ ∃ (K : PySem.W.Frag) (fm : List D → State → Option (D × State)), K.In h ∧ ReadyB l.prog w K mg k "law" [x] 1 fm ∧
      ∀ ns : List Int, ns.length ≤ n → (∀ z ∈ ns, Builtin.Int.intBits z ≤ 1048576) → ∃ st', fm [.scr ns] [] = some (.bl true, st')) :
    PySem.W.WalkO q loose XP YP l.row.toRowW d [] (fun f vs => PySem.call f vs) := by
  refine Att.attach_callB hn hdf fun w s₀ s₁ mg mb fa o pm cd doc a vs ns G Y ho hd hcd hmg hobj hints hlen hbits hg => ?_
  obtain ⟨hsys, K, fm, KX, ⟨a0, fd, hF, hm, _, _, hb⟩, hl⟩ := F w mg _ Y G.T.g
  rw [hname] at hmg
  rw [hm] at hmg
  cases hmg
  refine law_callB hsys KX G.T.g G.T.b G.T.builtins G.T.nolimit hg hobj hints (Nat.le_trans hlen hn2) hr hF (fun s u => hb s [u] rfl) fun H hO hS => ?_
  obtain ⟨st', e⟩ := hl ns hlen hbits
  refine ⟨[], [], [], [.scr ns], .bl true, st', ⟨List.nodup_nil, fun _ z => (nomatch z), rfl, fun _ z => (nomatch z), fun j a ds z _ => by simp at z⟩, .cons ?_ .nil, rfl, e, fun W' v H' _ _ r => ?_⟩
  · rw [hd_nil]
    exact .scr hS
  · cases r
    rfl
/-! a hook that tells of the table of modules -/
def sysG (g : Addr → Option Obj) : Bool := match g sysModules with
  | some ⟨_, _, .dict _ _, _⟩ => true
  | _ => false
theorem sysG_ok {h : Heap} (e : sysG h.get? = true) : SysB h := by
  unfold sysG at e
  split at e
  · rename_i c d es n sl hq
    exact ⟨_, es, n, hq, rfl⟩
  · cases e
/-! the mirrors that all laws share (printed by gen.py) -/
def b_l_bag : MS := (sRet (mOwn (aCons (mC (.int 0)) (aCons (mC (.int 1234567891)) (aCons (mC (.int 0)) (aCons (mLc (iLst (mSl slD (mVar 0) oNone (oSome (mC (.int 63))))) [1] (gNameM 1) tYesM (mN absD (aCons (mVar 1) aNil))) aNil))))))
def f_l_bag : List D → State → Option (D × State) := fnM 2 b_l_bag
def b_l_take : MS := (sSeq (sIf (tOf (m2 eqA (m2 ixD (mVar 0) (mC (.int 0))) (mC (.int 0)))) (sSeq (sSet 2 (mC (.int 0)))
  (sSeq (sIf (tOf (m2 ltD (m2 ixD (mVar 0) (mC (.int 2))) (mN lenD (aCons (m2 ixD (mVar 0) (mC (.int 3))) aNil)))) (sSet 2 (m2 ixD (m2 ixD (mVar 0) (mC (.int 3))) (m2 ixD (mVar 0) (mC (.int 2))))) sNext)
  (sSeq (sAugI (mVar 0) (mC (.int 2)) (mC (.int 1)))
  (sSeq (sIf (tOf (m2 geD (mVar 2) (mC (.int 1000000000000000000)))) (sSetI (mVar 2) (mVar 0) (mC (.int 0))) sNext)
  (sSeq (sSet 3 (m2 addD (m2 modI (mN intD (aCons (mVar 2) aNil)) (mC (.int 2147483647))) (m2 mulD (mC (.int 7919)) (m2 ixD (mVar 0) (mC (.int 2))))))
  (sSetI (m2 modI (mN intD (aCons (m2 addD (m2 mulD (m2 ixD (mVar 0) (mC (.int 1))) (mC (.int 48271))) (mVar 3)) aNil)) (mC (.int 2147483647))) (mVar 0) (mC (.int 1)))))))) sNext)
  (sSeq (sIf (tOf (m2 gtD (m2 ixD (mVar 0) (mC (.int 0))) (mC (.int 0)))) (sSeq (sSet 4 (m2 modI (mN intD (aCons (m2 ixD (mVar 0) (mC (.int 0))) aNil)) (mVar 1)))
  (sSeq (sSetI (m2 divI (m2 ixD (mVar 0) (mC (.int 0))) (mVar 1)) (mVar 0) (mC (.int 0)))
  (sRet (mVar 4)))) sNext)
  (sSeq (sSetI (m2 modI (mN intD (aCons (m2 addD (m2 mulD (m2 ixD (mVar 0) (mC (.int 1))) (mC (.int 48271))) (mC (.int 11))) aNil)) (mC (.int 2147483647))) (mVar 0) (mC (.int 1)))
  (sRet (m2 modI (mN intD (aCons (m2 divI (m2 ixD (mVar 0) (mC (.int 1))) (mC (.int 64))) aNil)) (mVar 1))))))
def f_l_take : List D → State → Option (D × State) := fnM 5 b_l_take
theorem atI_int {xs : List D} {i : Int} {v : D} (h : 0 ≤ i) (e : xs[i.toNat]? = some v) : atI xs i = some v := by
  have := atI_nat (j := i.toNat) e
  rwa [Int.toNat_of_nonneg h] at this
theorem mul_r {st : State} {i j : Int} (h1 : -(2 ^ 64) < j) (h2 : j < 2 ^ 64) : mulD st (.int i) (.int j) = some (.int (i * j)) := by
  have e : mulI st (.int i) (.int j) = some (.int (i * j)) := by
    show (if (decide (-(2 ^ 64) < i) && decide (i < 2 ^ 64)) || (decide (-(2 ^ 64) < j) && decide (j < 2 ^ 64)) then some (D.int (i * j)) else none) = _
    rw [decide_eq_true h1, decide_eq_true h2, Bool.and_self, Bool.or_true, if_pos rfl]
  unfold mulD orF
  rw [e]
theorem mod_p {st : State} {i j : Int} (h : 0 < j) : modI st (.int i) (.int j) = some (.int (i % j)) := by
  show (if decide (0 < j) then some (D.int (i % j)) else none) = _
  rw [decide_eq_true h, if_pos rfl]
theorem div_p {st : State} {i j : Int} (h : 0 < j) (h2 : j < 1073741824) : divI st (.int i) (.int j) = some (.int (i / j)) := by
  show (if decide (0 < j) && decide (j < 1073741824) then some (D.int (i / j)) else none) = _
  rw [decide_eq_true h, decide_eq_true h2, Bool.and_self, if_pos rfl]
theorem take_ok {many : Int} (h0 : 0 < many) (h1 : many < 1073741824) {bag : List D} {rest : State} (hb : BagD bag) :
    OK (f_l_take [.own 0, .int many] (bag :: rest)) fun p => ∃ d bag', p = (.int d, bag' :: rest) ∧ 0 ≤ d ∧ d < many ∧ BagD bag' := by
  obtain ⟨num, seed, pos, cells, rfl, hn, hs, hp, hc⟩ := hb
  refine ok_fn ?_
  -- behind the first if: a bag again
  refine ok_seq (OK.mono (Q := fun p => ∃ x3 x4 x5 num seed pos, p = (Out.next [some (.own 0), some (.int many), x3, x4, x5], [.int num, .int seed, .int pos, .lst (cells.map .int)] :: rest) ∧ 0 ≤ num ∧ 0 ≤ seed ∧ 0 ≤ pos) ?_ ?_)
  · refine ok_ifV (c := decide (V.int num = V.int 0)) (st' := [.int num, .int seed, .int pos, .lst (cells.map .int)] :: rest) rfl (fun hz => ?_) (fun _ => ok_next ⟨none, none, none, num, seed, pos, rfl, hn, hs, hp⟩)
    have hz : num = 0 := V.int.inj (of_decide_eq_true hz)
    subst hz
    refine ok_seq (ok_set (ok_c (ok_seq (OK.mono (Q := fun p => ∃ cell : Int, 0 ≤ cell ∧ p = (Out.next [some (.own 0), some (.int many), some (.int cell), none, none], [.int 0, .int seed, .int pos, .lst (cells.map .int)] :: rest)) ?_ ?_))))
    · refine ok_ifV (c := decide (pos < ((cells.map D.int).length : Int))) (st' := [.int 0, .int seed, .int pos, .lst (cells.map .int)] :: rest) rfl (fun hlt => ?_) (fun hge => ok_next ⟨0, Int.le_refl 0, rfl⟩)
      have hlt := of_decide_eq_true hlt
      rw [List.length_map] at hlt
      have hl : pos.toNat < cells.length := by omega
      refine ok_set (ok_m2 (ok_v (a := (D.lst (cells.map .int), [.int 0, .int seed, .int pos, .lst (cells.map .int)] :: rest)) rfl (ok_v (a := (D.int pos, [.int 0, .int seed, .int pos, .lst (cells.map .int)] :: rest)) rfl ?_)))
      refine ok_v (a := .int cells[pos.toNat]) ?_ ⟨cells[pos.toNat], hc _ (List.getElem_mem hl), rfl⟩
      show atI (cells.map D.int) pos = _
      refine atI_int hp ?_
      rw [List.getElem?_map, List.getElem?_eq_getElem hl]
      rfl
    · rintro _ ⟨cell, hcell, rfl⟩
      refine ok_seq (ok_v (a := (Out.next [some (.own 0), some (.int many), some (.int cell), none, none], [.int 0, .int seed, .int (pos + 1), .lst (cells.map .int)] :: rest)) rfl ?_)
      refine ok_seq (OK.mono (Q := fun p => ∃ num : Int, 0 ≤ num ∧ p = (Out.next [some (.own 0), some (.int many), some (.int cell), none, none], [.int num, .int seed, .int (pos + 1), .lst (cells.map .int)] :: rest)) ?_ ?_)
      · exact ok_ifV (c := decide ((1000000000000000000 : Int) ≤ cell)) (st' := [.int 0, .int seed, .int (pos + 1), .lst (cells.map .int)] :: rest) rfl (fun _ => ok_v rfl ⟨cell, hcell, rfl⟩) (fun _ => ok_next ⟨0, Int.le_refl 0, rfl⟩)
      · rintro _ ⟨num, hnum, rfl⟩
        refine ok_seq (ok_set (ok_v (a := (D.int (cell % 2147483647 + 7919 * (pos + 1)), [.int num, .int seed, .int (pos + 1), .lst (cells.map .int)] :: rest)) rfl ?_))
        refine ok_setI (ok_m2 (ok_mN (ok_cons (ok_m2 (ok_m2 (ok_v (a := (D.int seed, [.int num, .int seed, .int (pos + 1), .lst (cells.map .int)] :: rest)) rfl (ok_c (ok_v (mul_r (by decide) (by decide)) ?_))))))))
        refine ok_var rfl (ok_v (a := .int (seed * 48271 + (cell % 2147483647 + 7919 * (pos + 1)))) rfl (ok_nil (ok_v rfl (ok_c (ok_v rfl (ok_v rfl (ok_c ?_)))))))
        refine ok_v rfl ⟨_, _, _, num, (seed * 48271 + (cell % 2147483647 + 7919 * (pos + 1))) % 2147483647, pos + 1, rfl, hnum, Int.emod_nonneg _ (by decide), by omega⟩
  · rintro _ ⟨x3, x4, x5, num, seed, pos, rfl, hn, hs, hp⟩
    refine ok_seq (ok_ifV (c := decide (0 < num)) (st' := [.int num, .int seed, .int pos, .lst (cells.map .int)] :: rest) rfl (fun hz => ?_) (fun _ => ok_next ?_))
    · refine ok_seq (ok_set (ok_m2 (ok_v (a := (D.int num, [.int num, .int seed, .int pos, .lst (cells.map .int)] :: rest)) rfl (ok_var rfl (ok_v (mod_p h0) ?_)))))
      refine ok_seq (ok_setI (ok_m2 (ok_v (a := (D.int num, [.int num, .int seed, .int pos, .lst (cells.map .int)] :: rest)) rfl (ok_var rfl (ok_v (div_p h0 h1) (ok_var rfl (ok_c ?_)))))))
      refine ok_v (a := [.int (num / many), .int seed, .int pos, .lst (cells.map .int)] :: rest) rfl (ok_ret (ok_var rfl ?_))
      exact ⟨num % many, _, rfl, Int.emod_nonneg _ (by omega), Int.emod_lt_of_pos _ h0, num / many, seed, pos, cells, rfl, Int.ediv_nonneg hn (by omega), hs, hp, hc⟩
    · refine ok_seq (ok_setI (ok_m2 (ok_mN (ok_cons (ok_m2 (ok_m2 (ok_v (a := (D.int seed, [.int num, .int seed, .int pos, .lst (cells.map .int)] :: rest)) rfl (ok_c (ok_v (mul_r (by decide) (by decide)) ?_)))))))))
      refine ok_c (ok_v (a := .int (seed * 48271 + 11)) rfl (ok_nil (ok_v rfl (ok_c (ok_v rfl (ok_v rfl (ok_c (ok_v rfl ?_))))))))
      refine ok_ret (ok_m2 (ok_v (a := (D.int ((seed * 48271 + 11) % 2147483647 / 64), [.int num, .int ((seed * 48271 + 11) % 2147483647), .int pos, .lst (cells.map .int)] :: rest)) rfl (ok_var rfl (ok_v (mod_p h0) ?_))))
      exact ⟨_, _, rfl, Int.emod_nonneg _ (by omega), Int.emod_lt_of_pos _ h0, num, (seed * 48271 + 11) % 2147483647, pos, cells, rfl, hn, Int.emod_nonneg _ (by decide), hp, hc⟩
section
variable {ρ : Store} {st st' : State} {QE : D × State → Prop}
end
/-! ## parts of good data -/
theorem pr_bl {st : State} {a b : Bool} (h : a = b) : (D.bl a, st) = (D.bl b, st) := by rw [h]
theorem bag_ok (ns : List Int) : OK (f_l_bag [.scr ns] []) fun p => ∃ bag, p = (.own 0, [bag]) ∧ BagD bag := by
  refine ok_fn ?_
  refine ok_ret ?_
  unfold mOwn
  rw [ok_bind]
  refine ok_cons (ok_c (ok_cons (ok_c (ok_cons (ok_c (ok_cons (ok_mLc (ok_iLst (ok_sl (ok_var rfl (ok_oNone (ok_oSome (ok_c ⟨63, rfl, ?_⟩)))))))))))))
  refine ok_v (a := .lst (cutD (ns.map D.int) none (some 63))) rfl ?_
  refine ⟨cutD (ns.map D.int) none (some 63), rfl, ?_⟩
  have e1 : cutD (ns.map D.int) none (some 63) = (ns.take 63).map D.int := by
    rw [cut_to (by decide), List.map_take]
    rfl
  rw [e1]
  refine ⟨few_of (by rw [List.length_map, List.length_take]; omega), ?_⟩
  have e2 := lc_pure (i := 1) (t := tYesM) (e := mN absD (aCons (mVar 1) aNil)) (ρ := wipeR [some (.scr ns), none] [1]) (st := []) (pt := fun _ => true) (pe := fun d => match d with | .int i => .int (if i < 0 then -i else i) | d => d) ((ns.take 63).map D.int) (fun _ _ => rfl) (fun d hd _ => by
    obtain ⟨i, _, rfl⟩ := List.mem_map.mp hd
    rfl)
  refine ok_v e2 ?_
  refine ok_nil ?_
  show OK (if few 4 = true then _ else _) _
  rw [if_pos (show few 4 = true from rfl)]
  refine ok_some.mpr ⟨_, rfl, 0, 1234567891, 0, (ns.take 63).map (fun i => if i < 0 then -i else i), ?_, by decide, by decide, by decide, fun c hc => ?_⟩
  · show [D.int 0, D.int 1234567891, D.int 0, D.lst _] = _
    rw [List.filter_eq_self.mpr (fun _ _ => rfl), List.map_map, List.map_map]
    rfl
  · obtain ⟨i, _, rfl⟩ := List.mem_map.mp hc
    split <;> omega

theorem ok_takeE {i : Nat} {e : ME} {ρ : Store} {st : State} {Q : D × State → Prop} (hv : ρ[i]? = some (some (.own 0))) (h : OK (e ρ st) fun p => ∃ many bag rest, p = (.int many, bag :: rest) ∧ 0 < many ∧ many < 1073741824 ∧ BagD bag ∧ ∀ d bag', 0 ≤ d → d < many → BagD bag' → Q (.int d, bag' :: rest)) :
    OK (mCallN 2 f_l_take (aCons (mVar i) (aCons e aNil)) ρ st) Q := by
  obtain ⟨⟨x, s⟩, e1, many, bag, rest, e2, h0, h1, hb, h⟩ := h
  cases e2
  refine ok_call (ok_cons (ok_var hv (ok_cons (ok_v e1 (ok_nil ⟨rfl, (take_ok h0 h1 hb).mono ?_⟩)))))
  rintro _ ⟨d, bag', rfl, h2, h3, h4⟩
  exact h d bag' h2 h3 h4
/-! ## an expression that sees the lists, and lists within them, as they are -/
theorem good_shows {K : PySem.W.Frag} {hid W : List Addr} {st : State} {H : Hp} (g : Good K hid W st H) : Shows K W H 0 st :=
  ⟨fun j a ds _ h1 h2 => (g.own j a ds h1 h2).move rfl (fun _ _ z => z) hd_sub⟩
/-! ## a walk over a list that is kept apart, and that stays -/
end Ask
namespace Ask
open PySem PySem.Spec PyProof.Rows L2
local macro_rules | `(tactic| walk_at "ask") => `(tactic| first | with_reducible refine ok_sq ?_ | with_reducible refine ok_set ?_ | with_reducible refine ok_ret ?_ | with_reducible refine ok_next ?_ | with_reducible refine ok_m2 ?_ | with_reducible refine ok_mN ?_ | with_reducible refine ok_m1 ?_ | with_reducible refine ok_cons ?_ | with_reducible refine ok_nil ?_ | with_reducible refine ok_c ?_ | with_reducible refine ok_call ?_ | with_reducible refine ok_lst ?_ | with_reducible refine ok_tup ?_ | with_reducible refine ok_sl ?_ | with_reducible refine ok_oNone ?_ | with_reducible refine ok_oSome ?_ | with_reducible refine ok_tOf ?_ | with_reducible refine ok_tNot ?_ | with_reducible refine ok_tAnd ?_ | with_reducible refine ok_tOr ?_ | with_reducible refine ok_mAnd ?_ | with_reducible refine ok_mOr ?_ | with_reducible refine ok_mIf ?_ | with_reducible refine ok_chain ?_ | with_reducible refine ok_ifS ?_ | with_reducible refine ok_par ?_ | with_reducible refine ok_par3 ?_ | with_reducible refine ok_asg ?_ | with_reducible refine ok_own ?_ | with_reducible refine ok_iLst ?_ | with_reducible refine ok_iTup ?_ | with_reducible refine ok_iStr ?_ | with_reducible refine ok_forS ?_ | with_reducible refine ok_drop ?_ | with_reducible refine ok_setI ?_ | with_reducible refine ok_notD ?_ | with_reducible refine ok_negI ?_ | with_reducible refine ok_subI ?_ | with_reducible refine ok_addI ?_ | with_reducible refine ok_lenL ?_ | with_reducible refine ok_lenT ?_ | with_reducible refine ok_intI ?_ | with_reducible refine ok_intB ?_ | with_reducible refine ok_listL ?_ | with_reducible refine ok_listT ?_ | with_reducible refine ok_tupleL ?_ | with_reducible refine ok_tupleT ?_ | with_reducible refine ok_ltI ?_ | with_reducible refine ok_leI ?_ | with_reducible refine ok_gtI ?_ | with_reducible refine ok_geI ?_ | with_reducible refine ok_eqI ?_ | with_reducible refine ok_eqS ?_ | with_reducible refine ok_neS ?_ | with_reducible refine ok_neI ?_ | with_reducible refine ok_slT1 ?_ | with_reducible refine ok_slL1 ?_ | with_reducible refine ok_slLm ?_ | with_reducible refine ok_slTm ?_ | with_reducible refine ok_slL ?_ | with_reducible refine ok_slT ?_ | with_reducible refine ok_ixL ?_ | with_reducible refine ok_ixT ?_ | with_reducible refine ok_mLc ?_ | with_reducible refine ok_lcN ?_ | with_reducible refine ok_lcC ?_ | with_reducible refine ok_gName ?_ | with_reducible refine ok_tYes ?_ | with_reducible refine ok_rngO ?_ | with_reducible refine ok_emL ?_ | with_reducible refine ok_emT ?_ | with_reducible refine ok_enL ?_ | with_reducible refine ok_enT ?_ | ((with_reducible refine ok_varE ?_); refine ⟨_, rfl, ?_⟩) | with_reducible refine ex_int ?_ | with_reducible refine ex_bl ?_ | with_reducible refine ex_str ?_ | with_reducible refine ex_lst ?_ | with_reducible refine ex_tup ?_ | with_reducible refine ex_two ?_ | with_reducible refine ex_three ?_ | with_reducible refine if_t ?_ | with_reducible refine if_f ?_ | with_reducible refine if_nt ?_ | with_reducible refine if_nf ?_ | with_reducible refine aft_n ?_ | with_reducible refine aft_r ?_ | with_reducible refine aft_b ?_ | with_reducible refine aft_c ?_ | with_reducible refine fin_r ?_ | with_reducible refine fin_n ?_ | with_reducible refine ex_at0 ?_ | with_reducible refine ex_at1 ?_ | with_reducible refine ex_at2 ?_ | with_reducible refine ex_at3 ?_ | ((with_reducible refine And.intro ?_ ?_); (with_unfolding_all rfl)) | ((with_reducible refine if_dt ?_ ?_); first | decide +kernel | (apply decide_eq_true; omega) | (apply not_t; apply decide_eq_false; omega)) | ((with_reducible refine if_df ?_ ?_); first | decide +kernel | (apply decide_eq_false; omega) | (apply not_f; apply decide_eq_true; omega)) | ((with_reducible refine And.intro ?_ ?_); omega) | ((with_reducible refine ex_last ?_); refine ⟨_, rfl, ?_⟩) | ((with_reducible refine ok_mod ?_ ?_); decide) | dsimp only [List.set_cons_zero, List.set_cons_succ, List.map_cons, List.map_nil, List.length_cons, List.length_nil, Nat.reduceAdd, Nat.reduceSub, List.replicate_succ, List.replicate_zero, List.cons_append, List.nil_append, List.isEmpty_nil, List.isEmpty_cons, List.dropLast, wipeR, Option.isSome_some, Option.isSome_none])
local macro_rules | `(tactic| walk_at "asknf") => `(tactic| dsimp only [List.set_cons_zero, List.set_cons_succ, List.map_cons, List.map_nil, List.length_cons, List.length_nil, Nat.reduceAdd, Nat.reduceSub, List.replicate_succ, List.replicate_zero, List.cons_append, List.nil_append, List.isEmpty_nil, List.isEmpty_cons, List.dropLast, wipeR, Option.isSome_some, Option.isSome_none])
/-! ## data with empty dicts; lists that are kept apart: what many laws need -/
def rowB : D → Bool
  | .lst _ => true
  | .tup _ => true
  | _ => false
def rowL : D → List D
  | .lst xs => xs
  | .tup xs => xs
  | _ => []

theorem ok_mApp {ρ : Store} {st : State} {o e : ME} {QE : D × State → Prop} (h : OK (o ρ st) fun p => ∃ j, p.1 = .own j ∧ (lat p.2 j).isSome = true ∧ OK (e ρ p.2) fun q => ∃ l, lat q.2 j = some l ∧ few l.length = true ∧ QE (.non, q.2.set j (l ++ [q.1]))) : OK (mApp o e ρ st) QE := by
  obtain ⟨⟨d, s⟩, e1, j, h1, h0, ⟨d2, s2⟩, e2, l, h2, h3, q⟩ := h
  cases (show d = _ from h1)
  obtain ⟨l0, h0⟩ := Option.isSome_iff_exists.mp h0
  unfold mApp
  rw [e1, Option.bind_some]
  show OK ((lat s j).bind _) QE
  rw [show lat s j = some l0 from h0, Option.bind_some]
  show OK ((e ρ s).bind _) QE
  rw [e2, Option.bind_some]
  show OK ((lat s2 j).bind _) QE
  rw [show lat s2 j = some l from h2, Option.bind_some, if_pos h3]
  exact ok_some.mpr q
theorem ex_own {k : Nat} {P : Nat → Prop} (h : P k) : ∃ i, D.own k = D.own i ∧ P i := ⟨k, rfl, h⟩
@[irreducible] def big39 : Int := 10 ^ 39
theorem big39_eq : big39 = 10 ^ 39 := by unfold big39; rfl
theorem pow39 {st : State} : powI st (.int 10) (.int 39) = some (.int big39) := by
  have h : (decide ((0 : Int) ≤ 39) && decide ((39 : Int) ≤ 1000000) && decide ((10 : Int).natAbs < 2 ^ 64)) = true := by decide +kernel
  show (if (decide ((0 : Int) ≤ 39) && decide ((39 : Int) ≤ 1000000) && decide ((10 : Int).natAbs < 2 ^ 64)) = true then some (D.int (10 ^ (39 : Int).toNat)) else none) = _
  rw [if_pos h, big39_eq]
  rfl
end Ask
/-! ## an own error's __init__ that says super().__init__(..): a promise of it -/
namespace Ask
open PySem PySem.Spec PyProof.Rows L2
abbrev supEnv (qual : Str) (scope : Scope) (L f cda cc : Addr) : Env := PySem.W.ksEnv qual scope L f (.ref cda) cc
/-- the context of such a body -/
def cxS (CX : CXT) (P : Program) (w : World) (K : PySem.W.Frag) (mg : Str → Option Value) (base : Heap) (N : List Str) (qual : Str) (scope : Scope) (f cda cc : Addr) (A : Around) (outer : List Env) (s : Shared) (H : Hp) (E : XK) : Cx where
  prog := P
  w := w
  K := K
  mg := mg
  base := base
  A := A.deeper (supEnv qual scope s.heap.objs.size f cda cc)
  N := N
  s_0 := s
  H_0 := H
  env := supEnv qual scope s.heap.objs.size f cda cc
  outer := outer
  stack := supEnv qual scope s.heap.objs.size f cda cc :: outer
  ex := []
  calm := true
  fn := fun x => x != "__class__"
  pn := []
  xe := fun e s' => wpAny (model P w) (A.deeper (supEnv qual scope s.heap.objs.size f cda cc)) (leaving (supEnv qual scope s.heap.objs.size f cda cc) e) (fun _ s'' => CX outer H s E e s'') (fun e' s'' => CX outer H s E e' s'') s'
/-- what is to be known of the def -/
structure SupScope (ps : List Str) (sc : Scope) : Prop where
  kind : sc.kind = .function
  co : sc.isCoroutine = false
  gen : sc.isGenerator = false
  nd : ps.Nodup
  par : ∀ x ∈ ps, sc.names.lookup x = some .local
  nocell : ∀ y ∈ sc.names, y.2 ≠ .cell
  only : ∀ y ∈ sc.names, y.2 = .free → y.1 = "__class__"
  sup : sc.names.lookup ("super" : Str) = some .globalImplicit
  cls : sc.names.lookup ("__class__" : Str) = some .free
section
variable {CX : CXT} {P : Program} {w : World} {K : PySem.W.Frag} {mg : Str → Option Value} {base : Heap} {ps : List Str} {qual : Str} {scope : Scope} {f cda cc : Addr} {A : Around} {outer : List Env} {s : Shared} {H : Hp} {E : XK} {us : List Value} {vs : List V}
theorem lookup_mem {α : Type} {x : Str} {v : α} : ∀ {l : List (Str × α)}, l.lookup x = some v → (x, v) ∈ l
  | [], h => by cases h
  | (y, u) :: r, h => by
    rw [List.lookup_cons] at h
    by_cases e : x == y
    · rw [e] at h
      cases h
      rw [show x = y from eq_of_beq e]
      exact List.mem_cons_self
    · rw [show (x == y) = false from by simpa using e] at h
      exact List.mem_cons_of_mem _ (lookup_mem h)
theorem inv_sup (S : SupScope ps scope) (hd : A.handled = none) (e0 : Env0 P w K mg base A outer s H) (r : Vals vs us) (hl : vs.length = ps.length) (hcc : ∃ v, base.IsCell cc v) {h₁ : Heap} (hns : h₁.Ns s.heap.objs.size fun x => (ps.zip us).reverse.lookup x)
    (hk : ∀ b o, s.heap.get? b = some o → h₁.get? b = some o) (t : Nat) : Inv (cxS CX P w K mg base ps qual scope f cda cc A outer s H E) [] (L2.start ps vs) H { s with heap := h₁, toks := t } := by
  have noA : ∀ b : Addr, b ∉ (cxS CX P w K mg base ps qual scope f cda cc A outer s H E).ex := fun b z => absurd (show b ∈ ([] : List Addr) from z) (by simp)
  have one : ∀ y c, ([(("__class__" : Str), cc)] : List (Str × Addr)).lookup y = some c → y = ("__class__" : Str) ∧ c = cc := fun y c h => by
    have := lookup_mem h
    simp only [List.mem_cons, List.not_mem_nil, or_false, Prod.mk.injEq] at this
    exact this
  obtain ⟨vc, hcv⟩ := hcc
  have hbase : ∃ o, base.get? cc = some o := by
    obtain ⟨o, h1, _⟩ := hcv
    exact ⟨o, h1⟩
  obtain ⟨oc, hoc⟩ := hbase
  refine ⟨⟨e0.mod, S.kind, rfl, rfl, Nat.le_refl _, fun y z c h1 h2 => ?_, fun y hy => ?_, fun y c hf h => ?_, fun _ => hd, Around.frames_deeper e0.frames, .inr ⟨rfl, rfl⟩, fun b z => absurd z (noA b), e0.bs, e0.bsz, fun b _ _ => noA b, fun b z => absurd z (noA b), e0.funs, e0.frf⟩,
    rfl, e0.bare, Un.kept hk, ⟨_, hns, fun i y v h1 h2 h3 => ?_⟩, fun y c h => ?_, e0.hok.fresh (Nat.le_refl _), fun y c h => ?_, fun p hp => absurd (show p ∈ ([] : List (Addr × Obj)) from hp) (by simp), e0.hok.kept hk, ?_⟩
  · rw [(one y c h1).1, (one z c h2).1]
  · have hy : scope.names.lookup y = some .cell ∨ scope.names.lookup y = some .free := hy
    rcases hy with hy | hy
    · exact absurd rfl (S.nocell _ (lookup_mem hy))
    · have e := S.only _ (lookup_mem hy) rfl
      exact ⟨cc, by rw [show y = "__class__" from e]; rfl⟩
  · have e := (one y c h).1
    subst e
    have hf : (("__class__" : Str) != "__class__") = true := hf
    exact absurd hf (by decide)
  · have hi : i < vs.length := by
      unfold L2.start at h2
      by_cases hi : i < vs.length
      · exact hi
      · rw [List.getElem?_append_right (by simpa using hi), List.getElem?_replicate] at h2
        split at h2 <;> cases h2
    have ha : vs[i]? = some v := by
      unfold L2.start at h2
      rw [List.getElem?_append_left (by simpa using hi), List.getElem?_map] at h2
      cases e : vs[i]? with
      | none => rw [e] at h2; cases h2
      | some a => rw [e] at h2; cases h2; rfl
    obtain ⟨u, hu, rv⟩ := r.get ha
    have hp : ps[i]? = some y := h1
    refine ⟨u, rv, .inl ⟨S.par y (List.mem_of_getElem? hp), ?_⟩⟩
    have hz : (ps.zip us)[i]? = some (y, u) := by rw [List.getElem?_zip_eq_some]; exact ⟨hp, hu⟩
    have key : ∀ (l : List (Str × Value)), (l.map (·.1)).Nodup → (y, u) ∈ l → l.lookup y = some u := by
      intro l
      induction l with
      | nil => intro _ h; cases h
      | cons q t ih =>
        intro nd hm
        rw [List.map_cons, List.nodup_cons] at nd
        rw [List.lookup_cons]
        rcases List.mem_cons.mp hm with rfl | hm
        · simp
        · by_cases e : y == q.1
          · exfalso
            exact nd.1 (by rw [← eq_of_beq e]; exact List.mem_map.mpr ⟨(y, u), hm, rfl⟩)
          · rw [show (y == q.1) = false from by simpa using e]
            exact ih nd.2 hm
    refine key _ ?_ (List.mem_reverse.mpr (List.mem_of_getElem? hz))
    rw [List.map_reverse]
    refine List.pairwise_reverse.mpr ?_
    have nds : ((ps.zip us).map (·.1)).Nodup := by
      have hu : us.length = ps.length := by rw [← r.length]; exact hl
      have hsub : (ps.zip us).map (·.1) = ps := List.map_fst_zip (by omega)
      rw [hsub]
      exact S.nd
    exact nds.imp fun h z => h z.symm
  · rw [(one y c h).2]
    obtain ⟨o, h1, h2⟩ := hcv
    exact ⟨vc, o, hk _ _ (e0.bs _ _ h1).1, h2⟩
  · rw [(one y c h).2]
    exact (e0.bs _ _ hoc).2
  · unfold L2.start
    show _ = ps.length
    rw [List.length_append, List.length_map, List.length_replicate]
    omega
end
/-- the def of such an __init__ in the written part -/
structure SupFn (P : Program) (K : PySem.W.Frag) (mg : Str → Option Value) (f D cc cda : Addr) (fd : FuncData) (qual : Str) (scope : Scope) (body : List Stmt) (slf : Str) : Prop where
  ex : ∃ (name : Str) (params : Arguments) (dV kV doc pm : Value) (an : Option Addr) (ct oc : Value) (od : Option Addr) (osl : Array (Option Value)) (ar : Arg),
    fd = PySem.W.ksFn name qual params body scope dV kV doc pm an (.ref cda) ct cc ∧ K.lookup f = some ⟨oc, od, .func fd, osl⟩ ∧ (params.posonlyargs ++ params.args).head? = some ar ∧ ar.arg = slf
  code : PySem.W.codeIn K (.ref cda) qual = true
  file : ∃ (ccl : Value) (cdd : Option Addr) (vs : Array Value) (ccs : Array (Option Value)) (fl : Str) (tf : Tok), K.lookup cda = some ⟨ccl, cdd, .fields vs, ccs⟩ ∧ vs[2]? = some (.str fl tf) ∧ ((P.main.file : Str) == fl) = true
  cell : ∃ (cl : Value) (cld : Option Addr) (csl : Array (Option Value)), K.lookup cc = some ⟨cl, cld, .cell (some (.ref D)), csl⟩
  cls : ∃ cd, PySem.W.clsIn K D = some cd
  sup : mg "super" = none
  top : (P.main.scope.names.lookup ("super" : Str)).isSome = false
  third : PySem.W.nsIn K cStatics "thirdparty.any" = some none
/-- what is to be known of the class of the thing that is made -/
structure SupCls (K : PySem.W.Frag) (C D : Addr) : Prop where
  oex : OexC K C
  mro : PySem.W.mroIn K C (.ref D) = some true
  ini : PySem.W.ks_superIn K C D "__init__" = some (some (.builtin "ValueError.__init__"))
  sub : PySem.W.subIn K (.ref C) (.type "ValueError") = some true
theorem look_in {y : Str} {u : Value} : ∀ (l : List (Str × Value)), (l.map (·.1)).Nodup → (y, u) ∈ l → l.lookup y = some u
  | [], _, h => by cases h
  | q :: t, nd, hm => by
    rw [List.map_cons, List.nodup_cons] at nd
    rw [List.lookup_cons]
    rcases List.mem_cons.mp hm with rfl | hm
    · simp
    · by_cases e : y == q.1
      · exfalso
        exact nd.1 (by rw [← eq_of_beq e]; exact List.mem_map.mpr ⟨(y, u), hm, rfl⟩)
      · rw [show (y == q.1) = false from by simpa using e]
        exact look_in t nd.2 hm
theorem look_rev {ps : List Str} {us : List Value} {y : Str} {u : Value} (nd : ps.Nodup) (hl : us.length = ps.length) (hm : (y, u) ∈ ps.zip us) : (ps.zip us).reverse.lookup y = some u := by
  refine look_in _ ?_ (List.mem_reverse.mpr hm)
  rw [List.map_reverse]
  refine List.pairwise_reverse.mpr ?_
  have nds : ((ps.zip us).map (·.1)).Nodup := by
    rw [List.map_fst_zip (by omega)]
    exact nd
  exact nds.imp fun h z => h z.symm
section
variable {CX : CXT} {P : Program} {w : World} {K : PySem.W.Frag} {mg : Str → Option Value} {base : Heap} {ps : List Str} {slf qual : Str} {scope : Scope} {f D cc cda : Addr} {fd : FuncData} {k : Nat} {sp : Sp} {e : Expr} {es : List Expr} {rest : List Stmt} {p0 p1 p2 p3 p4 : Pos}
theorem fn_sup (F : SupFn P K mg f D cc cda fd qual scope (.Expr (.Call (.Attribute (.Call (.Name "super" p0) [] [] p1) "__init__" p2) (e :: es) [] p3) p4 :: rest) slf) (S : SupScope ps scope) (hself : ps.head? = some slf)
    (len : ∀ vs H Q E, sp vs H Q E → vs.length = ps.length)
    (hbody : ∀ (A : Around) (outer : List Env) (s : Shared) (H : Hp) (vs : List V) (Q : VK) (E : XK), Room k (A.deeper (supEnv qual scope s.heap.objs.size f cda cc)) → sp vs H Q E →
      ∃ (a C : Addr) (ws : List V) (ta : TA) (t : TS), vs = .ref a :: ws ∧ H a = some (exo a C none) ∧ SupCls K C D ∧ PA (cxS CX P w K mg base ps qual scope f cda cc A outer s H E) (e :: es) ta ∧ PSs (cxS CX P w K mg base ps qual scope f cda cc A outer s H E) rest t ∧
        ta (L2.start ps vs) H fun us H1 => us.length ≤ 1000 ∧ H1 a = some (exo a C none) ∧ t { nx := fun _ H' => Q .non H', rt := Q } (L2.start ps vs) H1)
    (hev : ∀ env : Env, ∃ pl : Sem Bool, eval (.Call (.Attribute (.Call (.Name "super" p0) [] [] p1) "__init__" p2) (e :: es) [] p3) env = (do
      let ov ← attributeBase (.Call (.Name "super" p0) [] [] p1) "__init__" env (eval (.Call (.Name "super" p0) [] [] p1) env)
      standAt p2.atName
      let (f, first) ← holding [ov] (getMethod ov "__init__" pl)
      callWith p3 f first (backTo p3 (starEach (e :: es) env)) []) := by intro _; exact ⟨_, rfl⟩)
    (hsw : ∀ env : Env, swapsWith (.Call (.Attribute (.Call (.Name "super" p0) [] [] p1) "__init__" p2) (e :: es) [] p3) none p4.line env = pure false := by intro _; rfl)
    (he : ∀ env, starEach (e :: es) env = (false, eval e env) :: starEach es env := by intro _; rfl) (hpl : ∀ env, (backTo p3 (starEach es env)).any (·.1) = false := by intro _; rfl) :
    FnOk P w K mg base CX (k + 1) f fd ps sp := by
  obtain ⟨name, params, dV, kV, doc, pm, an, ct, oc, od, osl, ar, rfl, lk, har, hself2⟩ := F.ex
  obtain ⟨ccl, cdd, vsC, ccs, fl, tf, hcode, hvs, hfile⟩ := F.file
  obtain ⟨cl, cld, csl, hcell⟩ := F.cell
  obtain ⟨cdD, hD⟩ := F.cls
  refine ⟨len, fun A outer s H args us vs Q E hr e0 hb r hsp => ?_⟩
  have hl := len _ _ _ _ hsp
  have KX : K.In s.heap := e0.mod.kin.keeps fun b o e => (e0.bs b o e).1
  have lim : s.heap.NoLimit := e0.mod.nolimit.keeps fun b o e => (e0.bs b o e).1
  refine PySem.ks_codeAny_call_defAt (binds := ps.zip us) hr.depth (KX _ _ lk) rfl lim (PySem.W.codeRec_of KX F.code) rfl hb S.nocell (fun y hy => S.par _ (List.of_mem_zip hy).1) (fun h₁ hns hk₁ => ?_) S.co S.gen S.kind
  obtain ⟨a, C, ws, ta, t, rfl, ha, hC, pA, pS, q⟩ := hbody A outer s H vs Q E (hr.deeper _) hsp
  have hcc : ∃ v, base.IsCell cc v := ⟨some (.ref D), _, e0.mod.kin _ _ hcell, rfl⟩
  have I := inv_sup (CX := CX) (qual := qual) (f := f) (cda := cda) (E := E) S hr.hd e0 r hl hcc hns hk₁ (s.toks + (ps.zip us).length)
  have hv : (ps.zip us).reverse.lookup ar.arg = some (.ref a) := by
    have hul : us.length = ps.length := by rw [← r.length]; exact hl
    cases r with
    | cons r1 rs =>
      rename_i u us'
      obtain rfl : u = Value.ref a := r1
      cases hps : ps with
      | nil => rw [hps] at hself; cases hself
      | cons y ps' =>
        rw [hps] at hself hul
        have hy : y = ar.arg := by rw [hself2]; exact Option.some.inj hself
        have nd := S.nd
        rw [hps] at nd
        refine look_rev nd hul ?_
        rw [hy]
        exact List.mem_cons_self
  have KX1 : K.In h₁ := I.kIn
  obtain ⟨oD, hD1, hD2⟩ : ∃ oD, h₁.get? D = some oD ∧ oD.data = .cls cdD := by
    unfold PySem.W.clsIn at hD
    split at hD
    · rename_i c d cd' sl ho
      cases hD
      exact ⟨_, KX1 _ _ ho, rfl⟩
    · cases hD
  obtain ⟨mb, hmb1, hmb2⟩ := e0.mod.blt
  obtain ⟨t1, ho⟩ := exo_at I.hok ha
  show PySem.wpAt (model P w) (A.deeper (supEnv qual scope s.heap.objs.size f cda cc)) (.func _ (supEnv qual scope s.heap.objs.size f cda cc)) (execs _ (supEnv qual scope s.heap.objs.size f cda cc)) _ _ _
  obtain ⟨pl, hev⟩ := hev (supEnv qual scope s.heap.objs.size f cda cc)
  refine PySem.ks_wpAt_execs_cons (PySem.ks_wpAt_Expr_any (PySem.ks_wpAt_MethodCall (pl := pl) ?_ hev) (by simp [interactive, S.kind]) (hsw _))
  refine PySem.ks_wpAt_super_base S.sup S.cls (by decide) rfl (KX1 _ _ lk) rfl har rfl (KX1 _ _ hcode) rfl hvs hfile F.top ?_
  refine PySem.W.ks_loadName_global S.kind S.sup (Calls.loadGlobal_builtin (e0.mod.glob.keeps I.bk) F.sup (hmb1.keeps I.bk) ((hmb2 _ (by decide)).trans (by decide +kernel)) ⟨rfl, ?_⟩)
  refine wpAny_loadName_free S.kind S.cls rfl ⟨_, KX1 _ _ hcell, rfl⟩ ?_
  refine wpAny_loadName_local S.kind (S.par _ (List.mem_of_mem_head? (by rw [hself2]; exact hself))) hns hv ?_
  refine PySem.ks_wpAny_isType_cls hD1 hD2 ⟨rfl, ?_⟩
  refine PySem.ks_wpAny_call_super hD1 hD2 ho rfl (fun c z => by cases z) (PySem.W.looks_mroIn KX1 hC.mro) fun h₂ hso hk₂ => ?_
  have I2 : Inv (cxS CX P w K mg base ps qual scope f cda cc A outer s H E) [] (L2.start ps (V.ref a :: ws)) H { s with heap := h₂, toks := s.toks + (ps.zip us).length } := I.kept (t' := s.toks + (ps.zip us).length) hk₂
  have KX2 : K.In h₂ := I2.kIn
  have IA : PySem.W.InstAt h₂ a _ C none := ⟨hk₂ _ _ ho, rfl, rfl, trivial⟩
  cases hc : PySem.W.clsIn K C with
  | none =>
    have := hC.ini
    unfold PySem.W.ks_superIn at this
    rw [hc] at this
    cases this
  | some cdC =>
    have hini := hC.ini
    unfold PySem.W.ks_superIn at hini
    rw [hc] at hini
    refine PySem.W.kxs_getMethod PySem.W.kxs_ValueError hso (PySem.W.looks_opaque KX2 F.third) (l₀ := cdC.mro) (fun A Q E s k q => wpAny_bind ((PySem.W.looks_clsIn KX2 hc) A _ E s k (wpAny_pure q))) rfl KX2 hini (IA.type.andThen (PySem.W.looks_subIn KX2 hC.sub)) (PySem.W.ks_ne KX2 IA hc) (by decide) ?_
    have hk₃ : ∀ b o, h₂.get? b = some o → (h₂.push (PySem.W.kxs_mw "ValueError.__init__" a)).get? b = some o := fun b o z => Heap.get?_push_of_some _ z
    have hu : (h₂.push (PySem.W.kxs_mw "ValueError.__init__" a)).get? h₂.objs.size = some (PySem.W.kxs_mw "ValueError.__init__" a) := Heap.get?_push_at rfl rfl
    have I3 : Inv (cxS CX P w K mg base ps qual scope f cda cc A outer s H E) [(h₂.objs.size, PySem.W.kxs_mw "ValueError.__init__" a)] (L2.start ps (V.ref a :: ws)) H ⟨h₂.push (PySem.W.kxs_mw "ValueError.__init__" a), s.gens, s.drawn, s.toks + (ps.zip us).length + 1, s.os⟩ := by
      refine (I2.kept (t' := s.toks + (ps.zip us).length + 1) hk₃).pins_of fun p hp => ?_
      rw [List.mem_singleton.mp hp]
      refine ⟨hu, I2.hok.fresh (Nat.le_refl _), ?_, I2.nofs (Nat.le_refl _), fun v z => by cases z⟩
      have := I2.lt
      exact fun z => absurd this (by rw [← z]; exact Nat.lt_irrefl _)
    have hcw := he (supEnv qual scope s.heap.objs.size f cda cc)
    have hpw := hpl (supEnv qual scope s.heap.objs.size f cda cc)
    show wpAny _ _ (callWith p3 (.ref h₂.objs.size) [] (backTo p3 (starEach (e :: es) (supEnv qual scope s.heap.objs.size f cda cc))) []) _ _ _
    have hrun := pA.run p3 _ _ _ _ _ I3 q
    rw [hcw]
    refine PySem.W.kxs_callWith (i := "ValueError.__init__") (x := a) (by show (false || (backTo p3 (starEach es (supEnv qual scope s.heap.objs.size f cda cc))).any (·.1)) = false; rw [hpw]; rfl) (Calls.evalArgs_plain ?_)
    rw [show starEach (e :: es) (cxS CX P w K mg base ps qual scope f cda cc A outer s H E).env = _ from hcw] at hrun
    refine thn hrun fun us4 s4 h4 => ?_
    obtain ⟨vs4, H4, I4, r4, hz4, ha4, q4⟩ := h4
    have hu4 := (I4.pin _ (List.mem_append_right _ (List.mem_singleton.mpr rfl))).1
    refine ⟨hu4, ?_⟩
    obtain ⟨nm, qq, NN, bs, bm, sn, sub, ab, col, dd, k0, k1, k2, k3, k5, hCo, hbm⟩ := hC.oex.cls
    obtain ⟨t4, ho4⟩ := exo_at I4.hok ha4
    obtain ⟨hp4, g4, d4, tk4, os4⟩ := s4
    refine wpAny_call (codeAny_of_tree ?_)
    show wpAny _ _ (callAny (.ref h₂.objs.size) ⟨us4, []⟩) _ _ _
    simp only [callAny]
    refine wpAny_bind (wpAny_load hu4 ?_)
    simp only [PySem.W.kxs_mw, show (Value.type "method-wrapper" == Value.type "method" || Value.type "method-wrapper" == Value.type "builtin_function_or_method" || Value.type "method-wrapper" == Value.type "method-wrapper") = true by decide, if_true]
    refine PySem.W.KFB.if_so (by decide) ?_
    refine wpAny_bind (PySem.W.check_bound_init PySem.F.excBase_ValueError.toExcCallFacts (I4.kIn _ _ hCo) ho4 rfl ?_)
    refine wpAny_bind (wpAny_pure (wpAny_pure ?_))
    refine ⟨plainId_quiet PySem.F.excBase_ValueError.init.plain _, codeAny_builtin PySem.F.excBase_ValueError.initEntry ?_⟩
    have hus4 : us4.length ≤ sizeLine := by
      rw [← r4.length, sizeLine_eq]
      omega
    refine PySem.W.exc_init_tree (cls := .ref C) (t0 := t4) (dv := none) (c2 := .none) (c3 := .none) (b4 := .bool false) ho4 hus4 fun h5 hk5 he5 ht5 => ?_
    have J := (I4.pins_of (pins' := []) fun p hp => absurd hp (by simp)).write (t' := tk4) (x := a) (e := a) (o := exo a C none) (by rw [ha4]; exact True.intro) (.inl rfl) hk5 ⟨_, he5⟩ (exo_ok he5)
    have eu : upd H4 a (exo a C none) = H4 := by
      funext b
      by_cases hb : b = a
      · rw [hb, upd_same, ha4]
      · rw [upd_ne hb]
    rw [eu] at J
    refine PySem.wpAt_of_wpAny (wpAny_mono (pS.run [] _ _ H4 _ J q4) (fun fl s' hs => ?_) fun e s' hs => hs)
    have fin : ∀ {σ' : L2.St} {H' : Hp} {v : V} {u : Value}, Inv (cxS CX P w K mg base ps qual scope f cda cc A outer s H E) [] σ' H' s' → RelV v u → Q v H' → CE outer P w H s Q u s' :=
      fun {σ' H' v u} J rv q => ⟨v, H', J.os, J.bare, J.base, J.hok, rv, q⟩
    cases fl with
    | ret u =>
      obtain ⟨v, σ', H', J, rv, q⟩ := hs
      exact fin J rv q
    | next =>
      obtain ⟨σ', H', J, q⟩ := hs
      exact fin (v := V.non) (u := Value.none) J rfl q
    | brk =>
      obtain ⟨_, _, _, q⟩ := hs
      exact False.elim q
    | cont =>
      obtain ⟨_, _, _, q⟩ := hs
      exact False.elim q
end
end Ask
/-! ## isinstance of a caught error, whether it has fields or not -/
namespace Ask
open PySem PySem.Spec PySem.Calls PyProof.Rows L2
section
variable {prog : Program} {w : World} {A : Around} {E : Value → Shared → Prop} {s : Shared} {K : PySem.W.Frag} {x D : Addr} {ox : Obj} {od : Option Obj}
theorem findObj_bind {C : Addr} {name : Str} {a g : Value} (hc : (PySem.W.clsIn K C).isSome = true) (ha : PySem.W.findIn K (.ref C) name = some (some a)) (hg : PySem.W.specialIn K a "__get__" = some (some g)) (ht : PySem.W.takesIn K a = some true) : PySem.W.findObj K C od name = some (.bind g a) := by
  obtain ⟨cd, hc⟩ := Option.isSome_iff_exists.mp hc
  unfold PySem.W.findObj
  rw [hc, Option.bind_some, ha, Option.bind_some]
  simp [hg, ht]
theorem class_of {Q : Option Value → Shared → Prop} (C : ExcC K D) (X : K.In s.heap) (I : PySem.W.InstAt s.heap x ox D od) (h : Q (some (.ref D)) { s with toks := s.toks + 1 }) : wpAny (model prog w) A (getAttr? (.ref x) "__class__") Q E s := by
  have hf : PySem.W.findObj K D od "__class__" = some (.bind (.builtin "getset_descriptor.__get__") (.builtin "object.__class__")) := findObj_bind (by obtain ⟨cd, hc, _⟩ := PySem.W.any_some C.hd; rw [hc]; rfl) C.ha C.hn C.ht
  obtain ⟨hp, g, d, t, os⟩ := s
  have L0 := I.type (M := model prog w)
  have L1 := PySem.W.looks_findIn (M := model prog w) X C.hg
  have L2 := PySem.W.looks_findIn (M := model prog w) X C.hk
  have L3 := PySem.W.looks_find (M := model prog w) X I hf
  have sub : PySem.W.Looks (model prog w) hp (isInstance (.ref x) (.type "BaseException")) true := L0.andThen (PySem.W.looks_subIn X C.hs)
  have hx0 : (false && onTheHeap (Value.builtin "BaseException.__getattribute__")) = false := rfl
  have hx2 : (Value.builtin "BaseException.__getattribute__" == Value.builtin "object.__getattribute__") = false := by decide +kernel
  have hx1 : (onTheHeap (Value.ref D) && Value.builtin "BaseException.__getattribute__" == Value.builtin "object.__getattribute__") = false := by rw [hx2]; rfl
  unfold getAttr? getAttrBy? getAttrBy
  refine wpAny_bind (wpAny_mkText (wpAny_bind (wpAny_attempt (wpAny_holding (wpAny_bind (L0.at (wpAny_bind (L1.at ?_))))))))
  show wpAny _ _ (if (onTheHeap (Value.ref D) && Value.builtin "BaseException.__getattribute__" == Value.builtin "object.__getattribute__") = true then _ else _) _ _ _
  rw [hx1, if_neg Bool.false_ne_true]
  unfold getAttrByItsOwn hookBefore
  refine wpAny_bind ?_
  rw [if_pos (show onTheHeap (Value.ref D) = true from rfl)]
  refine L2.at ?_
  refine wpAny_bind (wpAny_attempt (wpAny_holding ?_))
  unfold callGetattribute
  rw [hx0, if_neg Bool.false_ne_true]
  unfold boundAndCalled
  rw [PySem.F.excAttr_ValueError.ga.bind (.ref x)]
  refine wpAny_bind (wpAny_pure ?_)
  show wpAny _ _ (call (.builtin "BaseException.__getattribute__") [.ref x, .str "__class__" t]) _ _ _
  refine wpAny_call (codeAny_call_builtin PySem.F.excAttr_ValueError.ga.plain PySem.F.entry_bexc_ga ?_)
  refine @PySem.W.check_slot (model prog w) _ _ ⟨hp, g, d, t + 1, os⟩ "BaseException.__getattribute__" "BaseException" "__getattribute__" (.ref x) [.str "__class__" t] [] _ (by decide +kernel) (by decide +kernel) sub (PySem.F.args_bexc_ga (.ref x) (.str "__class__" t)) ?_
  unfold Builtin.«object.__getattribute__»
  refine wpAny_bind (wpAny_of_eq (a := ((Value.ref x : Value), [Value.str "__class__" t])) (by first | rfl | (simp only [slotArgs]; rfl)) ?_)
  refine wpAny_bind (wpAny_pure (wpAny_bind (L0.at (wpAny_bind (L3.at ?_)))))
  show wpAny _ _ (holding [Value.builtin "object.__class__"] (call (.builtin "getset_descriptor.__get__") [.builtin "object.__class__", .ref x, .ref D]) >>= ret) _ _ _
  refine wpAny_bind (wpAny_holding (wpAny_call (PySem.W.class_get (s := ⟨hp, g, d, t + 1, os⟩) (ox := ox) (od := od) X I C.hm ?_)))
  refine wpAny_pure ?_
  show wpAny _ _ (handedOut (.ref D)) _ _ _
  rw [PySem.W.handedOut_of (v := .ref D) rfl]
  first
    | exact wpAny_pure (wpAny_pure h)
    | exact wpAny_pure h
    | exact wpAny_pure (wpAny_bind (wpAny_pure (wpAny_pure h)))
theorem kitx_exD (C : ExcC K D) : PySem.W.KitX K (.ref x) (.ref D) (fun h => PySem.W.InstAt h x ox D od) where
  ty := fun _ _ _ I => I.type
  it := fun _ _ X _ => by
    obtain ⟨cdD, hcD, _⟩ := PySem.W.any_some C.hd
    unfold PySem.W.clsIn at hcD
    split at hcD
    · rename_i c' d' cd' sl' ho
      intro A' Q' E' s' k q
      unfold isType loadHead
      exact wpAny_bind (wpAny_loadPart (k _ _ (X _ _ ho)) (wpAny_pure q))
    · cases hcD
  ne := fun h tp dd its n sl X htp => by
    obtain ⟨cdD, hcD, _⟩ := PySem.W.any_some C.hd
    refine Bool.eq_false_iff.mpr fun q => ?_
    have e : D = tp := Value.ref.inj (beq_iff_eq.mp q)
    subst e
    unfold PySem.W.clsIn at hcD
    split at hcD
    · rename_i c' d' cd' sl' ho
      have z := (X _ _ ho).symm.trans htp
      cases z
    · cases hcD
  ca := fun X I k => class_of C X I k
end
end Ask

/-! ## expressions that may raise, statements made of them -/
namespace Ask
open PySem PySem.Spec PyProof.Rows L2
section
variable {X : Cx} {S : Option Slf} {Wsh : WX} {e : Expr} {m : MEX} {me : ME} {pos pos' : Pos}
end
/-! ## own errors: making and raising -/
def fldsOf {α : Type} (ps : List Str) (vs : List α) : List (Str × α) := (ps.zip vs).reverse
/-- what the __init__ of an own error with such fields does -/
def spErr (C : Addr) (ps : List Str) : Sp := fun vs H Q _ => ∃ (a : Addr) (ws : List V), vs = .ref a :: ws ∧ ws.length = ps.length ∧ H a = some (exo a C none) ∧
  ∀ dx, H dx = none → dx ≠ a → Q .non (upd (upd H dx (exd dx (fldsOf ps ws))) a (exo a C (some dx)))
theorem rps_zip {K : PySem.W.Frag} {W : List Addr} {h : Hp} {ps : List Str} {vs : List V} {ds : List D} (r : RpAll K W h vs ds) (hl : ds.length = ps.length) :
    (fldsOf ps vs).map (·.1) = (fldsOf ps ds).map (·.1) ∧ RpAll K W h ((fldsOf ps vs).map (·.2)) ((fldsOf ps ds).map (·.2)) := by
  have hv := r.length
  unfold fldsOf
  rw [List.map_reverse, List.map_reverse, List.map_reverse, List.map_reverse, List.map_fst_zip (by omega), List.map_fst_zip (by omega), List.map_snd_zip (by omega), List.map_snd_zip (by omega)]
  exact ⟨rfl, r.reverse⟩
section
variable {X : Cx} {S : Option Slf} {Wsh : WX} {e : Expr} {es : List Expr} {mA : MA} {C : String} {ps : List Str} {p pos pos' : Pos}
end
/-! ## the __init__ of an own error with one field -/
section
variable {P : Program} {w : World} {K : PySem.W.Frag} {mg : Str → Option Value} {base : Heap} {qual x : Str} {scope : Scope} {f C D cc cda : Addr} {fd : FuncData} {p0 p1 p2 p3 p4 p5 p6 p7 p8 p9 : Pos}
theorem err1 (F : SupFn P K mg f D cc cda fd qual scope [.Expr (.Call (.Attribute (.Call (.Name "super" p0) [] [] p1) "__init__" p2) [.Name x p5] [] p3) p4, .Assign [.Attribute (.Name "self" p6) x p7] (.Name x p8) p9] "self") (S : SupScope ["self", x] scope)
    (T : SupCls K C D) (hno : PySem.W.findIn K (.ref C) x = some none) (hd : (x == ("__debug__" : Str)) = false := by decide) (hcd : (x == ("__classdict__" : Str)) = false := by decide)
    (hev : ∀ env : Env, ∃ pl : Sem Bool, eval (.Call (.Attribute (.Call (.Name "super" p0) [] [] p1) "__init__" p2) [.Name x p5] [] p3) env = (do
      let ov ← attributeBase (.Call (.Name "super" p0) [] [] p1) "__init__" env (eval (.Call (.Name "super" p0) [] [] p1) env)
      standAt p2.atName
      let (f, first) ← holding [ov] (getMethod ov "__init__" pl)
      callWith p3 f first (backTo p3 (starEach [.Name x p5] env)) []) := by intro _; exact ⟨_, rfl⟩) : FnOk P w K mg base CX0 2 f fd ["self", x] (spErr C [x]) := by
  refine fn_sup (k := 1) (hev := hev) F S rfl (fun vs H Q E h => ?_) fun A outer s H vs Q E hr h => ?_
  · obtain ⟨a, ws, rfl, hl, _⟩ := h
    show ws.length + 1 = 2
    rw [hl]
    rfl
  · obtain ⟨a, ws, rfl, hl, ha, q⟩ := h
    match ws, hl with
    | [v], _ =>
      refine ⟨a, C, [v], _, _, rfl, ha, T, pa_cons (pe_var (i := 1) rfl (.inl (S.par _ (by simp))) hd hcd) pa_nil, pss_one (ps_ost (pe_var (i := 0) rfl (.inl (S.par _ (by simp)))) (pe_var (i := 1) rfl (.inl (S.par _ (by simp))) hd hcd)), ?_⟩
      refine ⟨v, rfl, ⟨by show 1 ≤ 1000; omega, ha, v, rfl, .ref a, rfl, a, C, rfl, T.oex, hno, .inl ⟨ha, fun dx h1 h2 => q dx h1 h2⟩⟩⟩
end
/-! ## try: .. except C as e: .. -/
section
variable {X : Cx} {Wsh : WX} {x n : Str} {c : Value} {i : Nat} {body suite : List Stmt} {b₀ : Stmt} {np pos pos' : Pos} {mb : MX} {ms : String → Addr → Option Addr → MS} {sub : String → Option Bool}
end
/-! ## what a suite asks of the error -/
def isX (a : Addr) (d : Option Addr) (b : Option Bool) : State → D → Option D := fun _ z => match z with
  | .exc a' d' _ _ => if a' = a ∧ d' = d then b.map .bl else none
  | _ => none
theorem look_rp {K : PySem.W.Frag} {W : List Addr} {h : Hp} {f : Str} {d : D} : ∀ {kvs : List (Str × V)} {ds : List D}, RpAll K W h (kvs.map (·.2)) ds → ((kvs.map (·.1)).zip ds).lookup f = some d → ∃ v, kvs.lookup f = some v ∧ Rp K W h v d
  | [], _, _, e => by cases e
  | (g, v) :: kvs, _, .cons (d := d0) r t, e => by
    rw [List.map_cons, List.zip_cons_cons, List.lookup_cons] at e
    rw [List.lookup_cons]
    by_cases hg : f == g
    · rw [hg] at e ⊢
      cases e
      exact ⟨v, rfl, r⟩
    · rw [show (f == g) = false from by simpa using hg] at e ⊢
      exact look_rp t e
def isXN (a : Addr) (d : Option Addr) (c : Addr) (b : Option Bool) : State → List D → Option D := fun _ as => match as with
  | [.exc a' d' _ _, .ref c'] => if c' = c ∧ a' = a ∧ d' = d then b.map .bl else none
  | _ => none
theorem mN_c {f : State → List D → Option D} {me : ME} {z : D} : mN f (aCons me (aCons (mC z) aNil)) = m1 (fun st x => f st [x, z]) me := by
  funext ρ st
  unfold mN m1 aCons mC aNil
  cases me ρ st <;> rfl
section
variable {X : Cx} {a : Addr} {C : String} {oe : Obj} {d : Option Addr} {pn : List (Addr × Obj)} {e : Expr} {me : ME} {f : Str} {pos p p2 : Pos}
end
end Ask
/-! ## enumerate(x), x a list or a tuple -/
namespace Ask
open PySem PySem.Spec PySem.Calls PyProof.Rows L2
open AutoSeq1 (wpAny_loadPart')
theorem meets_enumT (l : Addr) (items : Array Value) (n : Nat) (dct : Option Addr) (sl : Array (Option Value)) :
    Meets (Builtin.«enumerate.__new__» ⟨[.type "enumerate", .ref l], []⟩) (fun _ R s => s.heap.get? l = some { cls := .type "tuple", dict := dct, data := .seq items n, slots := sl } ∧
      R (.ok (.ret (.ref (s.heap.push { cls := .type "tuple_iterator", data := .fields #[.ref l, .int 0 0] }).objs.size)))
        { s with heap := (s.heap.push { cls := .type "tuple_iterator", data := .fields #[.ref l, .int 0 0] }).push { cls := .type "enumerate", data := .fields #[.none, .bool false, .ref s.heap.objs.size, rawInt 0, .none, .none] } }) :=
  .of_wp fun prog w A R s h => by
    obtain ⟨hp, g, d, tk, os⟩ := s; obtain ⟨hl, h⟩ := h
    have hsub := sub_enumerate
    have hL : Heap.IsTuple (Shared.heap ⟨hp, g, d, tk, os⟩) l items := ⟨_, hl, rfl, n, rfl⟩
    wp_walk using wpAny_loadPart' hl
    refine wpAny_stack_any fun st => wpAny_pure ?_
    split
    · rename_i c _ _ _ _ _
      cases (c == Value.type "enumerate")
      · wp_walk using wpAny_loadPart' hl, wpAny_pyIter_tuple hL
        exact ⟨_, rfl, h⟩
      · wp_walk using wpAny_loadPart' hl, wpAny_pyIter_tuple hL
        exact ⟨_, rfl, h⟩
    · wp_walk using wpAny_loadPart' hl, wpAny_pyIter_tuple hL
      exact ⟨_, rfl, h⟩
theorem call_enumT {prog : Program} {w : World} {A : Around} {E : Value → Shared → Prop} {s : Shared} {l : Addr} {items : Array Value} {Q : Value → Shared → Prop} (hL : s.heap.IsTuple l items)
    (h : ∀ h', IsEnum h' (s.heap.objs.size + 1) s.heap.objs.size 0 .none → h'.IsTupleIter s.heap.objs.size l 0 → h'.objs.size = s.heap.objs.size + 2 →
      (∀ b o, s.heap.get? b = some o → h'.get? b = some o) → Q (.ref (s.heap.objs.size + 1)) { s with heap := h' }) :
    wpAny (model prog w) A (call (.type "enumerate") [.ref l]) Q E s := by
  obtain ⟨⟨c, dct, dt, sl⟩, hl, hc, n, hd⟩ := hL
  replace hc : c = .type "tuple" := hc
  replace hd : dt = .seq items n := hd
  subst hc hd
  refine callType_new F.called_enumerate (by decide) (F.typeCall_enumerate_1 _) (F.newCall_enumerate_1 _) (fun obj => F.args_object_init_2 obj _) F.entry_enumerate_new
    (meets_enumT l items n dct sl) ⟨hl, ?_⟩
  have hz : (s.heap.push { cls := .type "tuple_iterator", data := .fields #[.ref l, .int 0 0] }).objs.size = s.heap.objs.size + 1 := Heap.size_push ..
  show _ ∧ _
  rw [hz]
  have he : IsEnum ((s.heap.push { cls := .type "tuple_iterator", data := .fields #[.ref l, .int 0 0] }).push
      { cls := .type "enumerate", data := .fields #[.none, .bool false, .ref s.heap.objs.size, rawInt 0, .none, .none] }) (s.heap.objs.size + 1) s.heap.objs.size 0 .none := by
    have := Heap.get?_push_size (s.heap.push { cls := .type "tuple_iterator", data := .fields #[.ref l, .int 0 0] })
      (o := { cls := .type "enumerate", data := .fields #[.none, .bool false, .ref s.heap.objs.size, rawInt 0, .none, .none] }) rfl
    rw [hz] at this; exact this
  refine ⟨⟨_, he, rfl⟩, h _ he ⟨_, Heap.get?_push_of_some _ (Heap.get?_push_size _ rfl), rfl, rfl⟩ (by rw [Heap.size_push, hz]) fun b o x => Heap.get?_push_of_some _ (Heap.get?_push_of_some _ x)⟩
/-- the tuple at a, each item in a new pair -/
def IteT (K : PySem.W.Frag) (a : Addr) : It :=
  ⟨fun i H => ∃ (xs : List V) (x : V), SqT K H a xs ∧ xs[i]? = some x, fun i H v H' => ∃ T x, v = .ref T ∧ H T = none ∧ H' = upd H T (.tup [.int (i : Nat), x]) ∧ ∀ xs, SqT K H a xs → xs[i]? = some x, fun i H => ∃ xs : List V, SqT K H a xs ∧ xs.length ≤ i⟩
theorem turn_enumT {P : Program} {w : World} {K : PySem.W.Frag} {elts : List Expr} {kk : Nat} {tpos : Pos} (a e it : Addr) (hai : a ≠ it) (hae : a ≠ e) :
    Turn P w K (.Tuple elts kk tpos) (IteT K a) [e, it] e (fun i h => (∃ old, IsEnum h e it ((i : Nat) : Int) old) ∧ h.IsTupleIter it a i ∧ e ≠ it) where
  mem := by simp
  obj := fun i h st b hb => by
    obtain ⟨⟨old, he⟩, ⟨o, ho, hc, hd⟩, _⟩ := st
    have e' : b = e ∨ b = it := by simpa using hb
    rcases e' with z | z
    · rw [z]; exact ⟨_, he, fun v q => nomatch q⟩
    · rw [z]; exact ⟨o, ho, fun v q => by rw [hd] at q; cases q⟩
  keep := fun i h h' st k => let ⟨⟨old, he⟩, hi, hne⟩ := st; ⟨⟨old, k e (by simp) _ he⟩, hi.at fun o q => k it (by simp) o q, hne⟩
  item := by
    intro X hP hw hK hc i pins s σ H E I hf st hg
    subst hP hw hK
    obtain ⟨⟨old, he⟩, hit, hne⟩ := st
    obtain ⟨xs, x, hq, hx⟩ := hg
    obtain ⟨its, rv, p, hz⟩ := I.tuple hq
    obtain ⟨u, hu, ru⟩ := rv.get hx
    have hel : e < s.heap.objs.size := Heap.lt_size he
    have hil : it < s.heap.objs.size := by obtain ⟨_, q, _⟩ := hit; exact Heap.lt_size q
    have hlt : i < its.toArray.size := by
      have := (List.getElem?_eq_some_iff.mp hu).1
      simpa using this
    refine wpAny_pyNext_enum_itemD (Draws.tuple (show X.A.in1.handled = none from I.ok.hd hc) it a hai its.toArray) he ⟨hit, show s.heap.IsTuple a its.toArray from p⟩ hlt hne (by simp [hne, Ne.symm hae]) fun y h' tk hP ho hst' hT hsz hk => ?_
    have hy : y = u := by
      have h1 : its.toArray[i]? = some y := hP
      rw [List.getElem?_toArray, hu] at h1
      exact (Option.some.inj h1).symm
    subst hy
    obtain ⟨hit', _⟩ := hst'
    refine ⟨_, rfl, wpAny_letOwnedTupleGo_enum (s := { s with heap := h', toks := tk + 1 }) ho fun h'' he' sb => ?_⟩
    have hT2 : h''.get? s.heap.objs.size = some { cls := .type "tuple", data := .seq #[.int i tk, y] } := (sb.2 _ (Nat.ne_of_gt hel)).trans hT
    have new : ObjOk X.prog X.w (upd H s.heap.objs.size (.tup [.int (i : Nat), x])) h'' s.heap.objs.size (.tup [.int (i : Nat), x]) :=
      ⟨by show 2 ≤ sizeLine; decide, [.int i tk, y], .cons ⟨_, rfl⟩ (.cons ru .nil), ⟨_, hT2, rfl, _, rfl⟩⟩
    have I1 : Inv X pins σ (upd H s.heap.objs.size (.tup [.int (i : Nat), x])) { s with heap := h'', toks := tk + 1 } :=
      I.turnedNew (ch := [e, it]) (fun b ob hb q => (sb.2 b (fun z => hb (by simp [z]))).trans (hk b ob (fun z => hb (by simp [z])) (fun z => hb (by simp [z])) q)) hf (Nat.le_refl _) new
    refine ⟨.ref s.heap.objs.size, _, I1, rfl, ⟨_, x, rfl, I.hok.fresh (Nat.le_refl _), rfl, fun ys hy => by rw [I.tuple_inj hy hq]; exact hx⟩, ⟨⟨y, ?_⟩, hit'.at fun o q => (sb.2 it (Ne.symm hne)).trans q, hne⟩, fun b hb => ?_⟩
    · have e1 : ((i + 1 : Nat) : Int) = (i : Int) + 1 := by omega
      rw [e1]; exact he'
    · have hb' : b < s.heap.objs.size := by
        have e' : b = e ∨ b = it := by simpa using hb
        rcases e' with z | z
        · rw [z]; exact hel
        · rw [z]; exact hil
      rw [upd_ne (Nat.ne_of_lt hb')]
      exact (hf b hb).1
  done := by
    intro X hP hw hK hc i pins s σ H E I hf st hg
    subst hP hw hK
    obtain ⟨⟨old, he⟩, hit, hne⟩ := st
    obtain ⟨xs, hq, hx⟩ := hg
    obtain ⟨its, rv, p, hz⟩ := I.tuple hq
    obtain ⟨f0, f1, f2, f3, f4, f5⟩ := hf it (by simp)
    have hl := rv.length
    have hT : s.TypeIs (.ref e) "enumerate" := ⟨_, he, rfl⟩
    unfold pyNext
    refine wpAny_bind (wpAny_attempt (wpAny_callSpecial?_slot (name := Str.ofString "__next__") hT F.slot_enumerate_next
      (wpAny_call_entry F.slot_enumerate_next hT F.entry_enumerate_next ?_ (F.args_enumerate_next_1 _))))
    show wpAny _ _ (field (.ref e) 2 >>= _) _ _ _
    refine wpAny_bind (wpAny_field he rfl (x := .ref it) rfl ?_)
    refine wpAny_bind (wpAny_nextOf_tuple_end (show X.A.in1.handled = none from I.ok.hd hc) hit (show s.heap.IsTuple a its.toArray from p) (by simp; omega) fun h' x he' hx' => ?_)
    obtain ⟨o, ho, hc⟩ := hx'
    refine wpAny_bind (wpAny_isInstance (T := "StopIteration") (b := true) ⟨o, ho, hc⟩ isSubtype_stop ?_)
    exact wpAny_pure ⟨rfl, I.turned (t' := s.toks) (fun b o hb q => he' b o hb q) f0 f1 f3 f4 f5⟩
  self := fun A i s Q E st h => let ⟨⟨_, he⟩, _⟩ := st; wpAny_pyIter_enum he h
end Ask
namespace Ask
open PySem PySem.Spec PyProof.Rows L2
def iEnumS (K : PySem.W.Frag) (ta : TA) : TI := fun σ H R => ta σ H fun vs H1 => ∃ a, vs = [.ref a] ∧ ((∃ xs, SqL K H1 a xs ∧ R (Ite K a) H1) ∨ ∃ xs, SqT K H1 a xs ∧ R (IteT K a) H1)
theorem pi_enumS {X : Cx} {e : Expr} {ta : TA} {p pos tpos : Pos} {elts : List Expr} {kk : Nat} (hg : Gl X "enumerate") (hm : X.mg "enumerate" = none) (ha : PA X [e] ta) (hs : starEach [e] X.env = [(false, eval e X.env)] := by rfl) :
    PI X (.Tuple elts kk tpos) (.Call (.Name "enumerate" p) [e] [] pos) (iEnumS X.K ta) := by
  refine ⟨fun pins s σ H R I h => ?_⟩
  refine Call_ (ld_blt I hg hm boot_enumerate (PyProof.Rows.callWith_type1 (thn (ha.run pos pins s σ H _ I h) fun us s1 ⟨vs, H1, I1, r1, q1⟩ => ?_) hs rfl))
  obtain ⟨a, ex, q1⟩ := q1
  subst ex
  cases r1 with
  | cons r rr =>
    cases rr
    cases r
    have two : ∀ b, b ∈ [s1.heap.objs.size + 1, s1.heap.objs.size] → s1.heap.objs.size ≤ b := fun b hb => by
      have e' : b = s1.heap.objs.size + 1 ∨ b = s1.heap.objs.size := by simpa using hb
      rcases e' with z | z
      · rw [z]; exact Nat.le_add_right _ _
      · rw [z]; exact Nat.le_refl _
    rcases q1 with ⟨xs, hq, q⟩ | ⟨xs, hq, q⟩
    · obtain ⟨its, rv, p', hz⟩ := I1.list hq
      refine call_enumerate_list p'.isList fun h' he hit hsz hk => wpAny_pyIter_enum he ?_
      have I2 : Inv X pins σ H1 { s1 with heap := h' } := I1.kept (t' := s1.toks) hk
      exact ⟨s1.heap.objs.size + 1, [s1.heap.objs.size + 1, s1.heap.objs.size], _, _, H1, rfl, I2, turn_enum a (s1.heap.objs.size + 1) s1.heap.objs.size, ⟨⟨.none, he⟩, hit, Nat.succ_ne_self _⟩, fun b hb => I1.fpOk (two b hb) (I1.hok.fresh (two b hb)), q⟩
    · obtain ⟨its, rv, p', hz⟩ := I1.tuple hq
      have p2 : s1.heap.IsTuple a its.toArray := p'
      have hlt : a < s1.heap.objs.size := by
        obtain ⟨o, ho, _⟩ := p2
        exact Heap.lt_size ho
      refine call_enumT p2 fun h' he hit hsz hk => wpAny_pyIter_enum he ?_
      have I2 : Inv X pins σ H1 { s1 with heap := h' } := I1.kept (t' := s1.toks) hk
      exact ⟨s1.heap.objs.size + 1, [s1.heap.objs.size + 1, s1.heap.objs.size], _, _, H1, rfl, I2, turn_enumT a (s1.heap.objs.size + 1) s1.heap.objs.size (Nat.ne_of_lt hlt) (Nat.ne_of_lt (Nat.lt_succ_of_lt hlt)), ⟨⟨.none, he⟩, hit, Nat.succ_ne_self _⟩, fun b hb => I1.fpOk (two b hb) (I1.hok.fresh (two b hb)), q⟩
/-! in mirrors -/
def enumD (ds : List D) : List D := ((List.range ds.length).zip ds).map fun p => .tup [.int (p.1 : Nat), p.2]
def iEnumM (a : MA) : MA := fun ρ st => (a ρ st).bind fun p => match p.1 with
  | [.lst ds] => some (enumD ds, p.2)
  | [.tup ds] => some (enumD ds, p.2)
  | _ => none
theorem enum_get {ds : List D} {i : Nat} {d : D} (h : (enumD ds)[i]? = some d) : ∃ z, ds[i]? = some z ∧ d = .tup [.int (i : Nat), z] := by
  unfold enumD at h
  rw [List.getElem?_map] at h
  obtain ⟨⟨j, z⟩, hz, rfl⟩ := Option.map_eq_some_iff.mp h
  obtain ⟨h1, h2⟩ := List.getElem?_zip_eq_some.mp hz
  rw [List.getElem?_range] at h1
  · cases h1
    exact ⟨z, h2, rfl⟩
  · exact (List.getElem?_eq_some_iff.mp h2).1
theorem enum_len (ds : List D) : (enumD ds).length = ds.length := by
  unfold enumD
  rw [List.length_map, List.length_zip, List.length_range]
  omega
theorem i_enum {X : Cx} {e : Expr} {mA : MA} {p pos tpos : Pos} {elts : List Expr} {kk : Nat} (hg : Gl X "enumerate") (hm : X.mg "enumerate" = none) (h : AD X [e] mA) (hs : starEach [e] X.env = [(false, eval e X.env)] := by rfl) :
    ID X (.Tuple elts kk tpos) (.Call (.Name "enumerate" p) [e] [] pos) (iEnumM mA) := by
  obtain ⟨_, p1, q1⟩ := h.ex
  refine ⟨_, pi_enumS hg hm p1 hs, ?_⟩
  intro hid W st H ρ σ ds st' g rs e9 R q
  obtain ⟨⟨x, s1⟩, e1, e⟩ := Option.bind_eq_some_iff.mp e9
  clear e9
  refine q1 hid W st H ρ σ x s1 g rs e1 _ fun W1 v1 H1 g1 o1 r1 => ?_
  dsimp only at e
  split at e
  · cases e
    cases r1 with
    | cons r0 t0 =>
      cases t0
      cases r0 with
      | @lst a xs es h1 h2 =>
        refine ⟨a, rfl, .inl ⟨xs, SqL.of (hd_sub _ _ h1), q W1 _ H1 g1 o1 ⟨fun hid' W' H' i d hm hp hi => ?_, fun hid' W' H' hm hp => ?_⟩⟩⟩
        · obtain ⟨z, hz, rfl⟩ := enum_get hi
          obtain ⟨v, hv, rv⟩ := h2.get hz
          have hS' : SqL X.K H' a xs := SqL.of (hd_sub _ _ (hm _ _ h1))
          refine ⟨⟨xs, v, hS', hv⟩, fun y H'' hy => ?_⟩
          obtain ⟨T, x', rfl, hn, rfl, f1⟩ := hy
          obtain rfl : x' = v := Option.some.inj ((f1 _ hS').symm.trans hv)
          refine ⟨fun c o z => by rw [upd_ne (ne_of_none z hn)]; exact z, fun hh k1 k2 => ?_⟩
          exact .tup (.inl (.inl (k2 T _ hn upd_same))) (.cons (.int _) (.cons (Rp.mono hp (fun c o z => k1 c o (hm c o z)) _ _ rv) .nil))
        · rw [enum_len]
          exact ⟨xs, SqL.of (hd_sub _ _ (hm _ _ h1)), Nat.le_of_eq h2.length⟩
  · cases e
    cases r1 with
    | cons r0 t0 =>
      cases t0
      cases r0 with
      | @tup a xs es h1 h2 =>
        refine ⟨a, rfl, .inr ⟨xs, Evl.ex_t hd_sub h1, q W1 _ H1 g1 o1 ⟨fun hid' W' H' i d hm hp hi => ?_, fun hid' W' H' hm hp => ?_⟩⟩⟩
        · obtain ⟨z, hz, rfl⟩ := enum_get hi
          obtain ⟨v, hv, rv⟩ := h2.get hz
          have hS' : SqT X.K H' a xs := Evl.ex_t hd_sub (Evl.ex_t hm h1)
          refine ⟨⟨xs, v, hS', hv⟩, fun y H'' hy => ?_⟩
          obtain ⟨T, x', rfl, hn, rfl, f1⟩ := hy
          obtain rfl : x' = v := Option.some.inj ((f1 _ hS').symm.trans hv)
          refine ⟨fun c o z => by rw [upd_ne (ne_of_none z hn)]; exact z, fun hh k1 k2 => ?_⟩
          exact .tup (.inl (.inl (k2 T _ hn upd_same))) (.cons (.int _) (.cons (Rp.mono hp (fun c o z => k1 c o (hm c o z)) _ _ rv) .nil))
        · rw [enum_len]
          exact ⟨xs, Evl.ex_t hd_sub (Evl.ex_t hm h1), Nat.le_of_eq h2.length⟩
  · cases e
end Ask
/-! ## own errors, found in the written part -/
namespace Ask
open PySem PySem.Spec PyProof.Rows L2
def oexB (K : PySem.W.Frag) (C : Addr) : Bool := (match K.lookup C with
  | some ⟨.type t, _, .cls cd, sl⟩ => (match cd.mro, sl.toList with
    | .ref C' :: bm, [_, _, _, _, some (.builtin n), _] => t == "type" && (C' == C && (n == "ValueError.__new__" && (!cd.hasDel && (cd.hasDict && PySem.HandSPX.refsVE bm))))
    | _, _ => false)
  | _ => false) && (He.eqO (PySem.W.findIn K (.ref C) "__setattr__") (some (some (.builtin "object.__setattr__"))) && (decide (PySem.W.subIn K (.ref C) (.type "BaseException") = some true) && (decide (PySem.W.typeIn K (.ref C) = some (.type "type")) && PySem.W.keepIn K (.ref C))))
theorem oexB_ok {K : PySem.W.Frag} {C : Addr} (h : oexB K C = true) : OexC K C := by
  obtain ⟨h0, h⟩ := He.ba h
  obtain ⟨h1, h⟩ := He.ba h
  obtain ⟨h2, h⟩ := He.ba h
  obtain ⟨h3, h4⟩ := He.ba h
  refine ⟨?_, He.eqO_ok h1, of_decide_eq_true h2, of_decide_eq_true h3, h4⟩
  split at h0
  · rename_i t dd cd sl ho
    split at h0
    · rename_i C' bm k0 k1 k2 k3 n k5 hm hs
      simp only [Bool.and_eq_true, beq_iff_eq, Bool.not_eq_true'] at h0
      obtain ⟨rfl, rfl, rfl, hdel, hdct, hr⟩ := h0
      obtain ⟨nm, bs, mro, ns, qn, hd, sn, sub, ab, col, del⟩ := cd
      dsimp only at hm hdel hdct
      subst hm hdel hdct
      have hsl : sl = #[k0, k1, k2, k3, some (.builtin "ValueError.__new__"), k5] := by
        obtain ⟨l⟩ := sl
        simp only at hs
        rw [hs]
      subst hsl
      exact ⟨nm, qn, ns, bs, bm, sn, sub, ab, col, dd, k0, k1, k2, k3, k5, ho, hr⟩
    · cases h0
  · cases h0
/-- one own error: its class, its __init__ as written -/
structure ErD where
  C : String
  params : Arguments
  body : List Stmt
  scope : Scope
  fld : List Str
def ErD.f (d : ErD) (K : PySem.W.Frag) : Addr := He.ma K (He.ga K d.C) "__init__"
def ErD.q (d : ErD) : Str := d.C ++ ".__init__"
abbrev ErV : Type := Option (Str × Str × Arguments × FuncBody × Scope × Addr × Addr)
def erW (K : PySem.W.Frag) (d : ErD) : ErV := match K.lookup (d.f K) with
  | some ⟨_, _, .func fd, _⟩ => some (fd.name, fd.qualname, fd.params, fd.body, fd.scope, fd.globals, fd.builtins)
  | _ => none
def ErD.val (d : ErD) : ErV := some ("__init__", d.q, d.params, .stmts d.body, d.scope, mainGlobals, builtinsNs)
def cellB (K : PySem.W.Frag) (cc D : Addr) : Bool := match K.lookup cc with
  | some ⟨_, _, .cell (some (.ref x)), _⟩ => x == D
  | _ => false
def fileB (K : PySem.W.Frag) (cda : Addr) (file : Str) : Bool := match K.lookup cda with
  | some ⟨_, _, .fields vs, _⟩ => (match (vs[2]? : Option Value) with
    | some (.str fl _) => file == fl
    | _ => false)
  | _ => false
def erB (P : Program) (K : PySem.W.Frag) (d : ErD) : Bool := (match K.lookup (d.f K) with
  | some ⟨_, _, .func fd, _⟩ => (match fd.closure, fd.code with
    | [(n, cc)], .ref cda => decide (n = "__class__") && (cellB K cc (He.ga K d.C) && (fileB K cda P.main.file && (PySem.W.codeIn K (.ref cda) d.q && decide (fd.defaults = .none))))
    | _, _ => false)
  | _ => false) && ((PySem.W.clsIn K (He.ga K d.C)).isSome && (decide (PySem.W.nsIn K mainGlobals "super" = some none) && (!(P.main.scope.names.lookup ("super" : Str)).isSome && (decide (PySem.W.nsIn K cStatics "thirdparty.any" = some none) &&
  (oexB K (He.ga K d.C) && (decide (PySem.W.mroIn K (He.ga K d.C) (.ref (He.ga K d.C)) = some true) && (decide (PySem.W.ks_superIn K (He.ga K d.C) (He.ga K d.C) "__init__" = some (some (.builtin "ValueError.__init__"))) &&
  (decide (PySem.W.subIn K (.ref (He.ga K d.C)) (.type "ValueError") = some true) && (He.eqO (PySem.W.findIn K (.ref (He.ga K d.C)) "__init__") (some (some (.ref (d.f K)))) && (decide (PySem.W.typeIn K (.ref (d.f K)) = some (.type "function")) &&
  (d.fld.all fun x => He.eqO (PySem.W.findIn K (.ref (He.ga K d.C)) x) (some none))))))))))))
structure ErSays (P : Program) (K : PySem.W.Frag) (mg : Str → Option Value) (d : ErD) : Prop where
  ex : ∃ (cc cda : Addr) (fd : FuncData), (∀ ar, (d.params.posonlyargs ++ d.params.args).head? = some ar → ar.arg = "self" → SupFn P K mg (d.f K) (He.ga K d.C) cc cda fd d.q d.scope d.body "self") ∧ ∃ kV doc pm an ct, fd = PySem.W.ksFn "__init__" d.q d.params d.body d.scope .none kV doc pm an (.ref cda) ct cc
  cls : SupCls K (He.ga K d.C) (He.ga K d.C)
  ini : PySem.W.findIn K (.ref (He.ga K d.C)) "__init__" = some (some (.ref (d.f K)))
  fn : PySem.W.typeIn K (.ref (d.f K)) = some (.type "function")
  fld : ∀ x ∈ d.fld, PySem.W.findIn K (.ref (He.ga K d.C)) x = some none
theorem er_ok {P : Program} {K : PySem.W.Frag} {h : Heap} {mg : Str → Option Value} (X : K.In h) (G : h.Ns mainGlobals mg) {d : ErD} (e : erW K d = d.val) (c : erB P K d = true) : ErSays P K mg d := by
  obtain ⟨c0, c⟩ := He.ba c
  obtain ⟨c1, c⟩ := He.ba c
  obtain ⟨c2, c⟩ := He.ba c
  obtain ⟨c3, c⟩ := He.ba c
  obtain ⟨c4, c⟩ := He.ba c
  obtain ⟨c5, c⟩ := He.ba c
  obtain ⟨c6, c⟩ := He.ba c
  obtain ⟨c7, c⟩ := He.ba c
  obtain ⟨c8, c⟩ := He.ba c
  obtain ⟨c9, c⟩ := He.ba c
  obtain ⟨c10, c11⟩ := He.ba c
  refine ⟨?_, ⟨oexB_ok c5, of_decide_eq_true c6, of_decide_eq_true c7, of_decide_eq_true c8⟩, He.eqO_ok c9, of_decide_eq_true c10, fun x hx => He.eqO_ok (List.all_eq_true.mp c11 x hx)⟩
  unfold erW at e
  cases q : K.lookup (d.f K) with
  | none => rw [q] at c0; cases c0
  | some o =>
    obtain ⟨oc, od, dt, osl⟩ := o
    rw [q] at c0 e
    cases dt with
    | func fd =>
      obtain ⟨n1, n2, n3, n4, n5, n6, n7, n8, n9, n10, n11, n12, n13, n14, n15⟩ := fd
      have e2 : (some (n1, n2, n3, n4, n5, n6, n15) : ErV) = (some (("__init__" : Str), d.q, d.params, FuncBody.stmts d.body, d.scope, mainGlobals, builtinsNs) : ErV) := e
      simp only [Option.some.injEq, Prod.mk.injEq] at e2
      obtain ⟨h1, h2, h3, h4, h5, h6, h7⟩ := e2
      dsimp only at c0
      split at c0
      · rename_i c3' c4' n cc cda
        obtain ⟨k1, c0⟩ := He.ba c0
        obtain ⟨k2, c0⟩ := He.ba c0
        obtain ⟨k3, c0⟩ := He.ba c0
        obtain ⟨k4, k5⟩ := He.ba c0
        have k5 : n8 = .none := of_decide_eq_true k5
        subst k5
        have k1 := of_decide_eq_true k1
        subst h1 h2 h3 h4 h5 h6 h7 k1
        refine ⟨cc, cda, _, fun ar har hself => ⟨⟨_, _, .none, n9, n10, n11, n12, n14, oc, od, osl, ar, rfl, q, har, hself⟩, k4, ?_, ?_, ?_, PySem.W.mg_none_of X G (of_decide_eq_true c2), ?_, of_decide_eq_true c4⟩, n9, n10, n11, n12, n14, rfl⟩
        · unfold fileB at k3
          split at k3
          · rename_i ccl cdd vs ccs hl
            split at k3
            · rename_i fl tf hv
              exact ⟨ccl, cdd, vs, ccs, fl, tf, hl, hv, k3⟩
            · cases k3
          · cases k3
        · unfold cellB at k2
          split at k2
          · rename_i cl cld x csl hl
            rw [beq_iff_eq] at k2
            subst k2
            exact ⟨cl, cld, csl, hl⟩
          · cases k2
        · exact Option.isSome_iff_exists.mp c1
        · simpa using c3
      · cases c0
    | _ => cases c0
/-! ## a hook that tells of own errors, too -/
def asU (g : Addr → Option Obj) (n : Nat) : List Addr := He.asD g n ++ [cStatics]
abbrev AlU : Type := (He.AlT × Bool) × (Bool × List ErV)
def obsU (P : Program) (n : Nat) (fa : List He.Fa) (fn : List He.DefD) (ts : List He.Tab) (er : List ErD) (ex : PySem.W.Frag → Bool) (g : Addr → Option Obj) : AlU :=
  let K := He.frT g (asU g n)
  ((He.obsT fa fn ts K, ex K && sysG g), (er.all fun d => erB P K d, er.map fun d => erW K d))
structure SaysU (P : Program) (fa : List He.Fa) (fn : List He.DefD) (ts : List He.Tab) (er : List ErD) (ex : PySem.W.Frag → Bool) (w : World) (K : PySem.W.Frag) : Prop where
  t : He.SaysT fa fn ts w K
  more : ex K = true
  erb : ∀ d ∈ er, erB P K d = true
  erw : er.map (fun d => erW K d) = er.map ErD.val
def hookU (P : Program) (n : Nat) (fa : List He.Fa) (fn : List He.DefD) (ts : List He.Tab) (er : List ErD) (ex : PySem.W.Frag → Bool) : PySem.W.Hook where
  α := AlU
  obs := fun s => obsU P n fa fn ts er ex s.heap.get?
  val := fun w => ((He.valT fn ts w, true), (true, er.map ErD.val))
  says := fun w h => SysB h ∧ ∃ K : PySem.W.Frag, K.In h ∧ SaysU P fa fn ts er ex w K
  of := fun _ _ e => by
    have e1 := congrArg (fun z : AlU => z.1.1) e
    have e2 := congrArg (fun z : AlU => z.1.2) e
    have e3 := congrArg (fun z : AlU => z.2.1) e
    have e4 := congrArg (fun z : AlU => z.2.2) e
    obtain ⟨h1, h2⟩ := He.ba e2
    exact ⟨sysG_ok h2, _, He.frT_in, e1, h1, fun d hd => List.all_eq_true.mp e3 d hd, e4⟩
  keeps := fun _ _ _ ⟨⟨o, es, ep, h1, h2⟩, K, hK, c⟩ k => ⟨⟨o, es, ep, k _ _ h1, h2⟩, K, PySem.W.Frag.In.keeps hK k, c⟩
theorem obsU_eq {P : Program} {n : Nat} {fa : List He.Fa} {fn : List He.DefD} {ts : List He.Tab} {er : List ErD} {ex : PySem.W.Frag → Bool} {g : Addr → Option Obj} {s : Shared} (h : ∀ a, g a = s.heap.get? a) : obsU P n fa fn ts er ex g = (hookU P n fa fn ts er ex).obs s := by
  have e : g = s.heap.get? := funext h
  rw [e] <;> rfl
theorem SaysU.err {P : Program} {fa : List He.Fa} {fn : List He.DefD} {ts : List He.Tab} {er : List ErD} {ex : PySem.W.Frag → Bool} {w : World} {K : PySem.W.Frag} {h : Heap} {mg : Str → Option Value} (c : SaysU P fa fn ts er ex w K) (X : K.In h) (G : h.Ns mainGlobals mg) (i : Nat) {d : ErD} (hi : er[i]? = some d := by rfl) : ErSays P K mg d := by
  refine er_ok X G ?_ (c.erb d (List.mem_of_getElem? hi))
  have e2 : (er.map fun d => erW K d)[i]? = (er.map ErD.val)[i]? := by rw [c.erw]
  rw [List.getElem?_map, List.getElem?_map, hi] at e2
  exact Option.some.inj e2
end Ask
/-! ## methods, __init__, __eq__ made ready -/
namespace Ask
open PySem PySem.Spec PyProof.Rows L2
section
variable {P : Program} {w : World} {K : PySem.W.Frag} {mg : Str → Option Value} {k : Nat} {C : String} {m qual : Str} {s0 : Stmt} {N ps : List Str} {mm : MS}
end
/-! what an own class must say, by one test -/
/-- what suites ask of the class of an error -/
def excTB (K : PySem.W.Frag) (C : String) : Bool := He.eqO (PySem.W.findIn K (.ref (He.ga K C)) "__getattribute__") (some (some (.builtin "BaseException.__getattribute__"))) && (He.eqO (PySem.W.findIn K (.ref (He.ga K C)) "__getattr__") (some none) && (decide (PySem.W.subIn K (.ref (He.ga K C)) (.type "BaseException") = some true) && (PySem.W.hasDictIn K (He.ga K C) &&
  (He.eqO (PySem.W.findIn K (.ref (He.ga K C)) "__class__") (some (some (.builtin "object.__class__"))) && (He.eqO (PySem.W.specialIn K (.builtin "object.__class__") "__get__") (some (some (.builtin "getset_descriptor.__get__"))) && (decide (PySem.W.takesIn K (.builtin "object.__class__") = some true) &&
  decide (PySem.W.mroIn K (He.ga K C) (.type "object") = some true)))))))
theorem excTB_ok {K : PySem.W.Frag} {C : String} (h : excTB K C = true) : ExcC K (He.ga K C) ∧ XfC K (He.ga K C) := by
  obtain ⟨h1, h⟩ := He.ba h
  obtain ⟨h2, h⟩ := He.ba h
  obtain ⟨h3, h⟩ := He.ba h
  obtain ⟨h4, h⟩ := He.ba h
  obtain ⟨h5, h⟩ := He.ba h
  obtain ⟨h6, h⟩ := He.ba h
  obtain ⟨h7, h8⟩ := He.ba h
  exact ⟨⟨He.eqO_ok h1, He.eqO_ok h2, of_decide_eq_true h3, h4, He.eqO_ok h5, He.eqO_ok h6, of_decide_eq_true h7, of_decide_eq_true h8⟩, ⟨He.eqO_ok h1, He.eqO_ok h2, of_decide_eq_true h3, h4⟩⟩
/-! ## own errors without fields -/
section
variable {CX : CXT} {P : Program} {w : World} {K : PySem.W.Frag} {mg : Str → Option Value} {base : Heap} {ps : List Str} {slf qual : Str} {scope : Scope} {f D cc cda : Addr} {fd : FuncData} {k : Nat} {sp : Sp} {es : List Expr} {rest : List Stmt} {p0 p1 p2 p3 p4 : Pos}
theorem fn_sup0 (F : SupFn P K mg f D cc cda fd qual scope (.Expr (.Call (.Attribute (.Call (.Name "super" p0) [] [] p1) "__init__" p2) [] [] p3) p4 :: rest) slf) (S : SupScope ps scope) (hself : ps.head? = some slf)
    (len : ∀ vs H Q E, sp vs H Q E → vs.length = ps.length)
    (hbody : ∀ (A : Around) (outer : List Env) (s : Shared) (H : Hp) (vs : List V) (Q : VK) (E : XK), Room k (A.deeper (supEnv qual scope s.heap.objs.size f cda cc)) → sp vs H Q E →
      ∃ (a C : Addr) (ws : List V) (t : TS), vs = .ref a :: ws ∧ H a = some (exo a C none) ∧ SupCls K C D ∧ PSs (cxS CX P w K mg base ps qual scope f cda cc A outer s H E) rest t ∧
        t { nx := fun _ H' => Q .non H', rt := Q } (L2.start ps vs) H)
    (hev : ∀ env : Env, ∃ pl : Sem Bool, eval (.Call (.Attribute (.Call (.Name "super" p0) [] [] p1) "__init__" p2) [] [] p3) env = (do
      let ov ← attributeBase (.Call (.Name "super" p0) [] [] p1) "__init__" env (eval (.Call (.Name "super" p0) [] [] p1) env)
      standAt p2.atName
      let (f, first) ← holding [ov] (getMethod ov "__init__" pl)
      callWith p3 f first (backTo p3 (starEach [] env)) []) := by intro _; exact ⟨_, rfl⟩)
    (hsw : ∀ env : Env, swapsWith (.Call (.Attribute (.Call (.Name "super" p0) [] [] p1) "__init__" p2) [] [] p3) none p4.line env = pure false := by intro _; rfl)
    (hpl : ∀ env, (backTo p3 (starEach [] env)).any (·.1) = false := by intro _; rfl) :
    FnOk P w K mg base CX (k + 1) f fd ps sp := by
  obtain ⟨name, params, dV, kV, doc, pm, an, ct, oc, od, osl, ar, rfl, lk, har, hself2⟩ := F.ex
  obtain ⟨ccl, cdd, vsC, ccs, fl, tf, hcode, hvs, hfile⟩ := F.file
  obtain ⟨cl, cld, csl, hcell⟩ := F.cell
  obtain ⟨cdD, hD⟩ := F.cls
  refine ⟨len, fun A outer s H args us vs Q E hr e0 hb r hsp => ?_⟩
  have hl := len _ _ _ _ hsp
  have KX : K.In s.heap := e0.mod.kin.keeps fun b o e => (e0.bs b o e).1
  have lim : s.heap.NoLimit := e0.mod.nolimit.keeps fun b o e => (e0.bs b o e).1
  refine PySem.ks_codeAny_call_defAt (binds := ps.zip us) hr.depth (KX _ _ lk) rfl lim (PySem.W.codeRec_of KX F.code) rfl hb S.nocell (fun y hy => S.par _ (List.of_mem_zip hy).1) (fun h₁ hns hk₁ => ?_) S.co S.gen S.kind
  obtain ⟨a, C, ws, t, rfl, ha, hC, pS, q⟩ := hbody A outer s H vs Q E (hr.deeper _) hsp
  have hcc : ∃ v, base.IsCell cc v := ⟨some (.ref D), _, e0.mod.kin _ _ hcell, rfl⟩
  have I := inv_sup (CX := CX) (qual := qual) (f := f) (cda := cda) (E := E) S hr.hd e0 r hl hcc hns hk₁ (s.toks + (ps.zip us).length)
  have hv : (ps.zip us).reverse.lookup ar.arg = some (.ref a) := by
    have hul : us.length = ps.length := by rw [← r.length]; exact hl
    cases r with
    | cons r1 rs =>
      rename_i u us'
      obtain rfl : u = Value.ref a := r1
      cases hps : ps with
      | nil => rw [hps] at hself; cases hself
      | cons y ps' =>
        rw [hps] at hself hul
        have hy : y = ar.arg := by rw [hself2]; exact Option.some.inj hself
        have nd := S.nd
        rw [hps] at nd
        refine look_rev nd hul ?_
        rw [hy]
        exact List.mem_cons_self
  have KX1 : K.In h₁ := I.kIn
  obtain ⟨oD, hD1, hD2⟩ : ∃ oD, h₁.get? D = some oD ∧ oD.data = .cls cdD := by
    unfold PySem.W.clsIn at hD
    split at hD
    · rename_i c d cd' sl ho
      cases hD
      exact ⟨_, KX1 _ _ ho, rfl⟩
    · cases hD
  obtain ⟨mb, hmb1, hmb2⟩ := e0.mod.blt
  obtain ⟨t1, ho⟩ := exo_at I.hok ha
  show PySem.wpAt (model P w) (A.deeper (supEnv qual scope s.heap.objs.size f cda cc)) (.func _ (supEnv qual scope s.heap.objs.size f cda cc)) (execs _ (supEnv qual scope s.heap.objs.size f cda cc)) _ _ _
  obtain ⟨pl, hev⟩ := hev (supEnv qual scope s.heap.objs.size f cda cc)
  refine PySem.ks_wpAt_execs_cons (PySem.ks_wpAt_Expr_any (PySem.ks_wpAt_MethodCall (pl := pl) ?_ hev) (by simp [interactive, S.kind]) (hsw _))
  refine PySem.ks_wpAt_super_base S.sup S.cls (by decide) rfl (KX1 _ _ lk) rfl har rfl (KX1 _ _ hcode) rfl hvs hfile F.top ?_
  refine PySem.W.ks_loadName_global S.kind S.sup (Calls.loadGlobal_builtin (e0.mod.glob.keeps I.bk) F.sup (hmb1.keeps I.bk) ((hmb2 _ (by decide)).trans (by decide +kernel)) ⟨rfl, ?_⟩)
  refine wpAny_loadName_free S.kind S.cls rfl ⟨_, KX1 _ _ hcell, rfl⟩ ?_
  refine wpAny_loadName_local S.kind (S.par _ (List.mem_of_mem_head? (by rw [hself2]; exact hself))) hns hv ?_
  refine PySem.ks_wpAny_isType_cls hD1 hD2 ⟨rfl, ?_⟩
  refine PySem.ks_wpAny_call_super hD1 hD2 ho rfl (fun c z => by cases z) (PySem.W.looks_mroIn KX1 hC.mro) fun h₂ hso hk₂ => ?_
  have I2 : Inv (cxS CX P w K mg base ps qual scope f cda cc A outer s H E) [] (L2.start ps (V.ref a :: ws)) H { s with heap := h₂, toks := s.toks + (ps.zip us).length } := I.kept (t' := s.toks + (ps.zip us).length) hk₂
  have KX2 : K.In h₂ := I2.kIn
  have IA : PySem.W.InstAt h₂ a _ C none := ⟨hk₂ _ _ ho, rfl, rfl, trivial⟩
  cases hc : PySem.W.clsIn K C with
  | none =>
    have := hC.ini
    unfold PySem.W.ks_superIn at this
    rw [hc] at this
    cases this
  | some cdC =>
    have hini := hC.ini
    unfold PySem.W.ks_superIn at hini
    rw [hc] at hini
    refine PySem.W.kxs_getMethod PySem.W.kxs_ValueError hso (PySem.W.looks_opaque KX2 F.third) (l₀ := cdC.mro) (fun A Q E s k q => wpAny_bind ((PySem.W.looks_clsIn KX2 hc) A _ E s k (wpAny_pure q))) rfl KX2 hini (IA.type.andThen (PySem.W.looks_subIn KX2 hC.sub)) (PySem.W.ks_ne KX2 IA hc) (by decide) ?_
    have hk₃ : ∀ b o, h₂.get? b = some o → (h₂.push (PySem.W.kxs_mw "ValueError.__init__" a)).get? b = some o := fun b o z => Heap.get?_push_of_some _ z
    have hu : (h₂.push (PySem.W.kxs_mw "ValueError.__init__" a)).get? h₂.objs.size = some (PySem.W.kxs_mw "ValueError.__init__" a) := Heap.get?_push_at rfl rfl
    have I3 : Inv (cxS CX P w K mg base ps qual scope f cda cc A outer s H E) [(h₂.objs.size, PySem.W.kxs_mw "ValueError.__init__" a)] (L2.start ps (V.ref a :: ws)) H ⟨h₂.push (PySem.W.kxs_mw "ValueError.__init__" a), s.gens, s.drawn, s.toks + (ps.zip us).length + 1, s.os⟩ := by
      refine (I2.kept (t' := s.toks + (ps.zip us).length + 1) hk₃).pins_of fun p hp => ?_
      rw [List.mem_singleton.mp hp]
      refine ⟨hu, I2.hok.fresh (Nat.le_refl _), ?_, I2.nofs (Nat.le_refl _), fun v z => by cases z⟩
      have := I2.lt
      exact fun z => absurd this (by rw [← z]; exact Nat.lt_irrefl _)
    have hpw := hpl (supEnv qual scope s.heap.objs.size f cda cc)
    show wpAny _ _ (callWith p3 (.ref h₂.objs.size) [] (backTo p3 (starEach [] (supEnv qual scope s.heap.objs.size f cda cc))) []) _ _ _
    refine PySem.W.kxs_callWith (i := "ValueError.__init__") (x := a) hpw (PyProof.Rows.evalArgs_nil3 ?_)
    have I4 := I3
    have ha4 := ha
    have hu4 := hu
    have q4 := q
    refine ⟨hu4, ?_⟩
    obtain ⟨nm, qq, NN, bs, bm, sn, sub, ab, col, dd, k0, k1, k2, k3, k5, hCo, hbm⟩ := hC.oex.cls
    obtain ⟨t4, ho4⟩ := exo_at I4.hok ha4
    refine wpAny_call (codeAny_of_tree ?_)
    show wpAny _ _ (callAny (.ref h₂.objs.size) ⟨[], []⟩) _ _ _
    simp only [callAny]
    refine wpAny_bind (wpAny_load hu4 ?_)
    simp only [PySem.W.kxs_mw, show (Value.type "method-wrapper" == Value.type "method" || Value.type "method-wrapper" == Value.type "builtin_function_or_method" || Value.type "method-wrapper" == Value.type "method-wrapper") = true by decide, if_true]
    refine PySem.W.KFB.if_so (by decide) ?_
    refine wpAny_bind (PySem.W.check_bound_init PySem.F.excBase_ValueError.toExcCallFacts (I4.kIn _ _ hCo) ho4 rfl ?_)
    refine wpAny_bind (wpAny_pure (wpAny_pure ?_))
    refine ⟨plainId_quiet PySem.F.excBase_ValueError.init.plain _, codeAny_builtin PySem.F.excBase_ValueError.initEntry ?_⟩
    refine PySem.W.exc_init_tree (cls := .ref C) (t0 := t4) (dv := none) (c2 := .none) (c3 := .none) (b4 := .bool false) ho4 (Nat.zero_le _) fun h5 hk5 he5 ht5 => ?_
    have J := (I4.pins_of (pins' := []) fun p hp => absurd hp (by simp)).write (t' := s.toks + (ps.zip us).length + 1) (x := a) (e := a) (o := exo a C none) (by rw [ha4]; exact True.intro) (.inl rfl) hk5 ⟨_, he5⟩ (exo_ok he5)
    have eu : upd H a (exo a C none) = H := by
      funext b
      by_cases hb : b = a
      · rw [hb, upd_same, ha4]
      · rw [upd_ne hb]
    rw [eu] at J
    refine PySem.wpAt_of_wpAny (wpAny_mono (pS.run [] _ _ H _ J q4) (fun fl s' hs => ?_) fun e s' hs => hs)
    have fin : ∀ {σ' : L2.St} {H' : Hp} {v : V} {u : Value}, Inv (cxS CX P w K mg base ps qual scope f cda cc A outer s H E) [] σ' H' s' → RelV v u → Q v H' → CE outer P w H s Q u s' :=
      fun {σ' H' v u} J rv q => ⟨v, H', J.os, J.bare, J.base, J.hok, rv, q⟩
    cases fl with
    | ret u =>
      obtain ⟨v, σ', H', J, rv, q⟩ := hs
      exact fin J rv q
    | next =>
      obtain ⟨σ', H', J, q⟩ := hs
      exact fin (v := V.non) (u := Value.none) J rfl q
    | brk =>
      obtain ⟨_, _, _, q⟩ := hs
      exact False.elim q
    | cont =>
      obtain ⟨_, _, _, q⟩ := hs
      exact False.elim q
end
def spErr0 (C : Addr) : Sp := fun vs H Q _ => ∃ a : Addr, vs = [.ref a] ∧ H a = some (exo a C none) ∧ Q .non H
section
variable {P : Program} {w : World} {K : PySem.W.Frag} {mg : Str → Option Value} {base : Heap} {qual : Str} {scope : Scope} {f C D cc cda : Addr} {fd : FuncData} {p0 p1 p2 p3 p4 : Pos}
theorem err0 (F : SupFn P K mg f D cc cda fd qual scope [.Expr (.Call (.Attribute (.Call (.Name "super" p0) [] [] p1) "__init__" p2) [] [] p3) p4] "self") (S : SupScope ["self"] scope) (T : SupCls K C D)
    (hev : ∀ env : Env, ∃ pl : Sem Bool, eval (.Call (.Attribute (.Call (.Name "super" p0) [] [] p1) "__init__" p2) [] [] p3) env = (do
      let ov ← attributeBase (.Call (.Name "super" p0) [] [] p1) "__init__" env (eval (.Call (.Name "super" p0) [] [] p1) env)
      standAt p2.atName
      let (f, first) ← holding [ov] (getMethod ov "__init__" pl)
      callWith p3 f first (backTo p3 (starEach [] env)) []) := by intro _; exact ⟨_, rfl⟩) : FnOk P w K mg base CX0 2 f fd ["self"] (spErr0 C) := by
  refine fn_sup0 (k := 1) (hev := hev) F S rfl (fun vs H Q E h => ?_) fun A outer s H vs Q E hr h => ?_
  · obtain ⟨a, rfl, _⟩ := h
    rfl
  · obtain ⟨a, rfl, ha, q⟩ := h
    exact ⟨a, C, [], _, rfl, ha, T, pss_nil, q⟩
end
section
variable {X : Cx}
end
/-! ## what comes of mirrors that may raise, make, ask things -/
section
variable {n i : Nat} {ρ : Store} {st : State} {F : Fl} {Q : OX × State → Prop} {a b m : MX} {C : String} {QS : Out × State → Prop} {QE : D × State → Prop} {QR : RX × State → Prop} {Q1 : D → Prop}
theorem rowL_lst (xs : List D) : rowL (.lst xs) = xs := rfl
theorem rowL_tup (xs : List D) : rowL (.tup xs) = xs := rfl
/-! ### things -/
theorem ex_one {x : D} {P : D → Prop} (h : P x) : ∃ d, [x] = [d] ∧ P d := ⟨x, rfl, h⟩
theorem ok_iEn {mA : MA} {QA : List D × State → Prop} (h : OK (mA ρ st) fun p => ∃ d, p.1 = [d] ∧ rowB d = true ∧ QA (enumD (rowL d), p.2)) : OK (iEnumM mA ρ st) QA := by
  obtain ⟨⟨l, s⟩, e, d, h1, h2, q⟩ := h
  cases (show l = _ from h1)
  unfold iEnumM
  rw [e, Option.bind_some]
  cases d with
  | lst xs => exact ok_some.mpr q
  | tup xs => exact ok_some.mpr q
  | _ => cases h2
theorem ok_gT2 {i j : Nat} {a b : D} {ρ : Store} {Q : Store → Prop} (q : Q ((ρ.set i (some a)).set j (some b))) : OK (gTupM 2 (gsCons (gNameM i) (gsCons (gNameM j) gsNil)) (.tup [a, b]) ρ) Q := ⟨_, rfl, q⟩
end
end Ask
/-! ## dicts that are kept apart -/
namespace Ask
open PySem PySem.Spec PyProof.Rows L2
section
variable {K : PySem.W.Frag} {hid W W1 : List Addr} {st s1 : State} {H H1 h : Hp} {a p : Addr} {ds : List D}
theorem OwnRp.dct {kvs : List (Key × V)} (e : H a = some (.dK kvs)) (r : RpAll K W h (kvs.map (·.2)) ds) : OwnRp K W h H a (dtag (kvs.map (·.1)) :: ds) := ⟨kvs.map (·.2), ⟨kvs, e, rfl, rfl⟩, r⟩
/-- the j-th own thing, a dict -/
def dat (st : State) (j : Nat) : Option (List Key × List D) := match st[j]? with
  | some ds => match kindL ds with
    | .dct ks => some (ks, ds.tail)
    | _ => none
  | none => none
theorem dat_iff {j : Nat} {ks : List Key} {ds : List D} (e : dat st j = some (ks, ds)) : ∃ l, st[j]? = some l ∧ kindL l = .dct ks ∧ bodyL l = ds := by
  unfold dat at e
  cases h : st[j]? with
  | none => rw [h] at e; cases e
  | some l =>
    rw [h] at e
    have e : (match kindL l with | .dct ks => some (ks, l.tail) | _ => none) = some (ks, ds) := e
    refine ⟨l, rfl, ?_⟩
    unfold bodyL
    cases hk : kindL l with
    | lst => rw [hk] at e; cases e
    | dct k2 => rw [hk] at e; cases e; exact ⟨rfl, rfl⟩
    | ins C k2 => rw [hk] at e; cases e
theorem Good.dat (g : Good K hid W st H) {j : Nat} {ks : List Key} (hj : W[j]? = some a) (e : Ask.dat st j = some (ks, ds)) : ∃ kvs : List (Key × V), H a = some (.dK kvs) ∧ kvs.map (·.1) = ks ∧ RpAll K W (hd (hid ++ W) H) (kvs.map (·.2)) ds := by
  obtain ⟨l, e1, e2, e3⟩ := dat_iff e
  obtain ⟨xs, q, r⟩ := g.own j a l hj e1
  rw [e2] at q
  rw [e3] at r
  obtain ⟨kvs, q1, q2, q3⟩ := q
  subst q3
  exact ⟨kvs, q1, q2, r⟩
theorem hd_own {u : HO} (ha : a ∈ W) : ∀ b, hd (hid ++ W) (upd H a u) b = hd (hid ++ W) H b := fun b => by
  unfold hd
  split
  · rfl
  · rename_i hb
    rw [upd_ne fun z => hb (by rw [z]; exact List.mem_append_right _ ha)]
/-- an own thing is put anew -/
theorem Good.storeG (g : Good K hid W st H) {j : Nat} {u u0 : HO} (hj : W[j]? = some a) (hx : H a = some u0) (hu : hk u = hk u0) (o : OwnRp K W (Ask.hd (hid ++ W) H) (upd H a u) a ds) :
    Gr W H W (upd H a u) ∧ Good K hid W (st.set j ds) (upd H a u) := by
  have ha : a ∈ W := List.mem_of_getElem? hj
  have hh := hd_own (hid := hid) (H := H) (u := u) ha
  refine ⟨⟨fun _ _ e => e, fun _ h => .inl h, fun b o hb e => by rw [upd_ne fun z => hb (by rw [z]; exact ha)]; exact e, fun b o _ e => ?_⟩, ⟨g.nd, g.dis, by rw [List.length_set]; exact g.len, fun b hb => ?_, fun i b es h1 h2 => ?_⟩⟩
  · by_cases z : b = a
    · subst z
      rw [hx] at e
      cases e
      exact ⟨_, upd_same, hu⟩
    · exact ⟨o, by rw [upd_ne z]; exact e, rfl⟩
  · by_cases z : b = a
    · rw [z, upd_same]; exact Option.some_ne_none _
    · rw [upd_ne z]; exact g.dom b hb
  · have mono : ∀ c u', Ask.hd (hid ++ W) H c = some u' → Ask.hd (hid ++ W) (upd H a u) c = some u' := fun c u' e => by rw [hh]; exact e
    by_cases hij : j = i
    · subst hij
      rw [hj] at h1
      cases h1
      have hl : j < st.length := by rw [← g.len]; exact (List.getElem?_eq_some_iff.mp hj).1
      rw [List.getElem?_set_self hl] at h2
      cases h2
      exact o.move rfl (fun _ _ z => z) mono
    · rw [List.getElem?_set_ne hij] at h2
      refine (g.own i b es h1 h2).move (upd_ne fun z => ?_) (fun _ _ z => z) mono
      subst z
      exact hij (nodup_inj g.nd hj h1)
/-- what was under way becomes an own thing -/
theorem own_end {o u : HO} (hp : H p = none) (G : Gr W (upd H p o) W1 H1) (g : Good K (p :: hid) W1 s1 H1) (h1 : p ∉ W) (h2 : p ∉ hid) (r : OwnRp K W1 (hd ((p :: hid) ++ W1) H1) (upd H1 p u) p ds) :
    Gr W H (W1 ++ [p]) (upd H1 p u) ∧ Good K hid (W1 ++ [p]) (s1 ++ [ds]) (upd H1 p u) := by
  have off := G.off hp h1
  have hpre : ∀ (j : Nat) (b : Addr), W1[j]? = some b → (W1 ++ [p])[j]? = some b := fun j b e => by rw [List.getElem?_append_left (List.getElem?_eq_some_iff.mp e).1]; exact e
  have hk : ∀ b v, hd ((p :: hid) ++ W1) H1 b = some v → hd (hid ++ (W1 ++ [p])) (upd H1 p u) b = some v := fun b v e => by
    rw [hd_some] at e ⊢
    have hne : b ≠ p := fun z => e.1 (by rw [z]; exact List.mem_cons_self)
    refine ⟨fun z => e.1 ?_, by rw [upd_ne hne]; exact e.2⟩
    rcases List.mem_append.mp z with z | z
    · exact List.mem_cons_of_mem _ (List.mem_append_left _ z)
    · rcases List.mem_append.mp z with z | z
      · exact List.mem_cons_of_mem _ (List.mem_append_right _ z)
      · exact absurd (List.mem_singleton.mp z) hne
  have GI := G.inner (o' := u) hp
  refine ⟨⟨fun j b e => hpre j b (G.pre j b e), fun b hb => ?_, GI.keep, GI.kin⟩, ⟨?_, fun b hb z => (List.mem_append.mp hb).elim (fun h => g.dis b h (List.mem_cons_of_mem _ z)) (fun h => h2 (by rw [← List.mem_singleton.mp h]; exact z)), ?_, fun b hb => ?_, fun j b es h1 h2 => ?_⟩⟩
  · rcases List.mem_append.mp hb with z | z
    · exact GI.new b z
    · rw [List.mem_singleton.mp z]; exact .inr hp
  · exact List.nodup_append.mpr ⟨g.nd, by simp, fun b hb c hc => by rw [List.mem_singleton.mp hc]; exact fun z => off (z ▸ hb)⟩
  · rw [List.length_append, List.length_append, g.len]; rfl
  · by_cases z : b = p
    · rw [z, upd_same]; exact Option.some_ne_none _
    · rw [upd_ne z]; exact g.dom b (List.mem_cons_of_mem _ hb)
  · by_cases hj : j < W1.length
    · rw [List.getElem?_append_left hj] at h1
      rw [List.getElem?_append_left (by rw [← g.len]; exact hj)] at h2
      exact (g.own j b es h1 h2).move (upd_ne fun z => off (z ▸ List.mem_of_getElem? h1)) hpre hk
    · have hj2 : j < (W1 ++ [p]).length := (List.getElem?_eq_some_iff.mp h1).1
      rw [List.length_append, List.length_singleton] at hj2
      obtain rfl : j = W1.length := by omega
      have e1 : b = p := by simpa using h1.symm
      have e2 : es = ds := by rw [g.len] at h2; simpa using h2.symm
      subst e1 e2
      exact r.move rfl hpre hk
end
/-! ### {..} -/
def mDctO (ks : List Str) (a : MA) : ME := fun ρ st => (a ρ st).map fun p => (.own p.2.length, p.2 ++ [dtag (ks.map .inr) :: p.1])
section
variable {X : Cx} {pos : Pos} {keys : List (Option Expr)} {values : List Expr} {ks : List Str} {mA : MA}
theorem d_dctO (h : PrsD X pos keys values ks mA) (hn : ks.Nodup := by decide) (h15 : ks.length ≤ 15 := by decide) (hall : keys.all (·.isSome) = true := by rfl) (hl : keys.length = values.length := by rfl) (h0 : keys ≠ [] := by intro z; cases z) (hk15 : keys.length ≤ 15 := by decide) :
    ED X (.Dict keys values pos) (mDctO ks mA) := by
  obtain ⟨_, p1, q1⟩ := h.ex
  refine ⟨_, pe_disp p1 hall hl h0 hk15, ?_⟩
  intro hid W st H ρ σ d st' g rs e Q q
  obtain ⟨⟨ds, s1⟩, e1, e2⟩ := Option.map_eq_some_iff.mp e
  cases e2
  refine dct_walk q1 hn h15 g rs e1 fun W1 H1 p kvs g1 o1 h1 h2 hp hk r => ?_
  have rr : OwnRp X.K W1 (hd ((p :: hid) ++ W1) H1) (upd H1 p (.dK kvs)) p (dtag (ks.map .inr) :: ds) := by
    rw [← hk]
    exact .dct upd_same r
  obtain ⟨G2, o2⟩ := own_end hp g1 o1 h1 h2 rr
  exact q _ _ _ G2 o2 (.own (by rw [← o1.len]; simp))
end
/-! ### d[k], k in d -/
def keyD : D → Option Key
  | .str x => some (.inr x)
  | .int i => some (.inl i)
  | _ => none
theorem key_rp {K : PySem.W.Frag} {W : List Addr} {h : Hp} {v : V} {d : D} {k : Key} (r : Rp K W h v d) (e : keyD d = some k) : v = kV k := by
  cases r <;> first | (cases e; rfl) | cases e
section
variable {X : Cx} {o i e f : Expr} {mo mi me mf : ME} {pos tpos apos cpos : Pos}
/-! ### d[k] = v -/
def putDs (ks : List Key) (ds : List D) (k : Key) (v : D) : List Key × List D := if (ks.any fun x => decide (x = k)) = true then (ks, (ks.zip ds).map fun q => if q.1 = k then v else q.2) else (ks ++ [k], ds ++ [v])
theorem put_rp {K : PySem.W.Frag} {W : List Addr} {h : Hp} {v : V} {d : D} (k : Key) (r : Rp K W h v d) {kvs : List (Key × V)} {ds : List D} (rs : RpAll K W h (kvs.map (·.2)) ds) :
    (putK kvs k v).map (·.1) = (putDs (kvs.map (·.1)) ds k d).1 ∧ RpAll K W h ((putK kvs k v).map (·.2)) (putDs (kvs.map (·.1)) ds k d).2 := by
  have ec : (kvs.any fun kv => decide (kv.1 = k)) = ((kvs.map (·.1)).any fun x => decide (x = k)) := by rw [List.any_map]; rfl
  unfold putK putDs
  rw [ec]
  cases (kvs.map (·.1)).any fun x => decide (x = k) with
  | false =>
    rw [if_neg Bool.false_ne_true, if_neg Bool.false_ne_true]
    refine ⟨by rw [List.map_append]; rfl, ?_⟩
    rw [List.map_append]
    exact rs.append (.cons r .nil)
  | true =>
    rw [if_pos rfl, if_pos rfl]
    refine ⟨?_, ?_⟩
    · rw [List.map_map]
      refine List.map_congr_left fun q _ => ?_
      show (if q.1 = k then (q.1, v) else q).1 = q.1
      split <;> rfl
    · clear ec
      induction kvs generalizing ds with
      | nil => cases rs; exact .nil
      | cons q t ih =>
        cases rs with
        | @cons _ _ d0 ds0 r0 rs0 =>
          rw [List.map_cons, List.map_cons, List.map_cons, List.zip_cons_cons, List.map_cons]
          refine .cons ?_ (ih rs0)
          show Rp K W h (if q.1 = k then (q.1, v) else q).2 (if q.1 = k then d else d0)
          split
          · exact r
          · exact r0
def setDD (st : State) (o i v : D) : Option State := match o with
  | .own j => (dat st j).bind fun q => (keyD i).bind fun k => if few q.1.length = true then some (st.set j (dtag (putDs q.1 q.2 k v).1 :: (putDs q.1 q.2 k v).2)) else none
  | _ => none
def sSetDD (v o i : ME) : MS := fun _ ρ st => (v ρ st).bind fun p => (o ρ p.2).bind fun q => (i ρ q.2).bind fun r => (setDD r.2 q.1 r.1 p.1).map fun s => (.next ρ, s)
theorem set_rp {K : PySem.W.Frag} {hid W : List Addr} {st st' : State} {H : Hp} {o i v : D} {xo xi xv : V} (g : Good K hid W st H) (ro : Rp K W (hd (hid ++ W) H) xo o) (ri : Rp K W (hd (hid ++ W) H) xi i) (rv : Rp K W (hd (hid ++ W) H) xv v) (e : setDD st o i v = some st') :
    ∃ a H', xo = .ref a ∧ DPut H a xi xv H' ∧ Gr W H W H' ∧ Good K hid W st' H' := by
  match o, ro, e with
  | .own j, .own (a := a) hj, e =>
    obtain ⟨⟨ks, ds⟩, e1, e2⟩ := Option.bind_eq_some_iff.mp e
    obtain ⟨k, e3, e4⟩ := Option.bind_eq_some_iff.mp e2
    split at e4
    · rename_i hf
      cases e4
      obtain ⟨kvs, h1, h2, h3⟩ := g.dat hj e1
      have e8 := key_rp ri e3
      subst e8 h2
      obtain ⟨p1, p2⟩ := put_rp k rv h3
      have rr : OwnRp K W (hd (hid ++ W) H) (upd H a (.dK (putK kvs k xv))) a (dtag (putDs (kvs.map (·.1)) ds k v).1 :: (putDs (kvs.map (·.1)) ds k v).2) := by
        rw [← p1]
        exact .dct upd_same p2
      obtain ⟨G, o⟩ := g.storeG (u := .dK (putK kvs k xv)) hj h1 rfl rr
      have hl : kvs.length < sizeLine := by
        have := few_lt hf
        rw [List.length_map] at this
        exact this
      exact ⟨a, _, rfl, .k h1 hl, G, o⟩
    · cases e4
theorem s_setDD (hu : X.A.units + 64 < cLine) (he : ED X e me) (ho : ED X o mo) (hi : ED X i mi) (hs : swapsWith e (some (.Subscript o i tpos)) pos.line X.env = pure false := by rfl) : SD X (.Assign [.Subscript o i tpos] e pos) (sSetDD me mo mi) := by
  obtain ⟨_, p1, q1⟩ := he.ex
  obtain ⟨_, p2, q2⟩ := ho.ex
  obtain ⟨_, p3, q3⟩ := hi.ex
  refine ⟨_, ps_dput (by omega) p2 p3 p1 hs, ?_⟩
  intro hid W0 H0 W st H ρ σ ou st' G g rs e E q
  obtain ⟨⟨x, s1⟩, e1, e⟩ := Option.bind_eq_some_iff.mp e
  obtain ⟨⟨y, s2⟩, e2, e⟩ := Option.bind_eq_some_iff.mp e
  obtain ⟨⟨z, s3⟩, e3, e⟩ := Option.bind_eq_some_iff.mp e
  obtain ⟨s4, e4, e5⟩ := Option.map_eq_some_iff.mp e
  cases e5
  refine q1 hid W st H ρ σ x s1 g rs e1 _ fun W1 v1 H1 g1 o1 r1 => ?_
  refine q2 hid W1 s1 H1 ρ σ y s2 o1 (g1.rs rs) e2 _ fun W2 v2 H2 g2 o2 r2 => ?_
  refine q3 hid W2 s2 H2 ρ σ z s3 o2 ((g1.trans g2).rs rs) e3 _ fun W3 v3 H3 g3 o3 r3 => ?_
  obtain ⟨a, H4, ea, ep, gS, oS⟩ := set_rp o3 (g3.rp r2) r3 ((g2.trans g3).rp r1) e4
  exact ⟨a, H4, ea, ep, q W3 σ _ (G.trans (g1.trans (g2.trans (g3.trans gS)))) oS ((g1.trans (g2.trans (g3.trans gS))).rs rs)⟩
end
end Ask
/-! ## x in an own list; a keyword-only parameter whose default is (); own classes that are made -/
namespace Ask
open PySem PySem.Spec PyProof.Rows L2
theorem u64 {A : Around} (h : A.units + 66 < cLine) : A.units + 64 < cLine := by omega
section
variable {X : Cx} {k : Nat} {C : String} {fm : List D → State → Option (D × State)} {a b : Expr} {ma mb : ME} {pos : Pos}
end
/-! ### the default of a keyword-only parameter, an object -/
/-! ## an expression that sees own lists, however deep, as they are -/
def rzK (n : Nat) (st : State) : Nat → D → D
  | 0, d => d
  | k + 1, d => rzK n st k (d.rz n st)
theorem rp_rzK {K : PySem.W.Frag} {W : List Addr} {h : Hp} {n : Nat} {st : State} (S : Shows K W h n st) : ∀ (k : Nat) (d : D) (v : V), Rp K W h v d → Rp K W h v (rzK n st k d)
  | 0, _, _, r => r
  | k + 1, d, v, r => rp_rzK S k _ v (rp_rz S d v r)
def resD (st : State) (ρ : Store) : Store := ρ.map fun o => o.bind fun d => if (rzK 0 st 24 d).low 0 = true then some (rzK 0 st 24 d) else none
def mFzD (m : ME) : ME := fun ρ st => (m (resD st ρ) []).bind fun q => if scalD q.1 = true then some (q.1, st) else none
theorem rs_resD {K : PySem.W.Frag} {hid W : List Addr} {st : State} {H : Hp} {ρ : Store} {σ : L2.St} (g : Good K hid W st H) (rs : Rs K W (hd (hid ++ W) H) ρ σ) : Rs K [] H (resD st ρ) σ := by
  refine ⟨by unfold resD; rw [List.length_map]; exact rs.1, fun i d hi => ?_⟩
  unfold resD at hi
  rw [List.getElem?_map] at hi
  obtain ⟨o, h1, h2⟩ := Option.map_eq_some_iff.mp hi
  obtain ⟨d0, h3, h4⟩ := Option.bind_eq_some_iff.mp h2
  subst h3
  split at h4
  · rename_i hs
    cases h4
    obtain ⟨v, z1, z2⟩ := rs.2 i d0 h1
    have S := good_shows g
    have r0 := Rp.mono (fun _ _ z => z) hd_sub d0 v z2
    exact ⟨v, z1, rp_low (fun _ _ hj _ => absurd hj (Nat.not_lt_zero _)) _ v hs (rp_rzK S 24 d0 v r0)⟩
  · cases h4
theorem d_fzD {X : Cx} {e : Expr} {m : ME} (h : ED X e m) : ED X e (mFzD m) := by
  obtain ⟨_, p1, q1⟩ := h.ex
  refine ⟨_, p1, ?_⟩
  intro hid W st H ρ σ d st' g rs e Q q
  obtain ⟨⟨d', s2⟩, e1, e2⟩ := Option.bind_eq_some_iff.mp e
  split at e2
  · rename_i sc
    cases e2
    refine q1 [] [] [] H (resD st ρ) σ d' s2 Good.none (by rw [hd_nil]; exact rs_resD g rs) e1 Q fun W' v H' G _ rv => ?_
    obtain ⟨g1, g2⟩ := g.all G.allOf
    exact q W v H' g2 g1 (scal_rp sc rv)
  · cases e2
theorem ok_fzD {m : ME} {ρ : Store} {st : State} {QE : D × State → Prop} (h : OK (m (resD st ρ) []) fun q => scalD q.1 = true ∧ QE (q.1, st)) : OK (mFzD m ρ st) QE := by
  unfold mFzD
  rw [ok_bind]
  refine h.mono fun q h => ?_
  rw [if_pos h.1]
  exact ok_some.mpr h.2
theorem kvarD {ρ : Store} {st s : State} {i : Nat} {d d' : D} {QE : D × State → Prop} (e : ρ[i]? = some (some d)) (h : rzK 0 st 24 d = d') (hl : d'.low 0 = true) (q : QE (d', s)) : OK (mVar i (resD st ρ) s) QE := by
  refine ok_var ?_ q
  unfold resD
  rw [List.getElem?_map, e]
  show some (if (rzK 0 st 24 d).low 0 = true then some (rzK 0 st 24 d) else none) = _
  rw [h, if_pos hl]
end Ask
namespace Ask
open PySem PySem.Spec PySem.Calls PyProof.Rows L2
/-! ## errors as values; errors with two and three fields -/
theorem swap2 {o1 o2 : Expr} {x y u v : Str} {p1 p2 p3 p4 p5 p6 : Pos} {k1 k2 : Nat} (env : Env) : swappedStores [.Tuple [.Attribute o1 x p1, .Attribute o2 y p2] k1 p3] (.Tuple [.Name u p4, .Name v p5] k2 p6) env = pure none := by
  unfold swappedStores
  dsimp only
  split <;> rfl
theorem swap3 {o1 o2 o3 : Expr} {x y z u v w : Str} {p1 p2 p3 p4 p5 p6 p7 p8 : Pos} {k1 k2 : Nat} (env : Env) : swappedStores [.Tuple [.Attribute o1 x p1, .Attribute o2 y p2, .Attribute o3 z p7] k1 p3] (.Tuple [.Name u p4, .Name v p5, .Name w p8] k2 p6) env = pure none := by
  unfold swappedStores
  dsimp only
  split <;> rfl
/-- self.f = .., self an error that is being made -/
def gOst (K : PySem.W.Frag) (f : Str) (to : TE) : TG := fun y σ H Q => to σ H fun x H2 => ∃ a C : Addr, x = .ref a ∧ OexC K C ∧ PySem.W.findIn K (.ref C) f = some none ∧
  ((H2 a = some (exo a C none) ∧ ∀ dx, H2 dx = none → dx ≠ a → Q σ (upd (upd H2 dx (exd dx [(f, y)])) a (exo a C (some dx)))) ∨
    ∃ (dx : Addr) (fs : List (Str × V)), H2 a = some (exo a C (some dx)) ∧ H2 dx = some (exd dx fs) ∧ fs.length ≤ 900 ∧ Q σ (upd H2 dx (exd dx ((f, y) :: fs))))
theorem pg_ost {X : Cx} {o : Expr} {f : Str} {to : TE} {pos : Pos} (ho : PE X o to) (ha : ∀ v, assign (.Attribute o f pos) X.env v = (do
      let ov ← holding [v] (eval o X.env)
      standAt pos.atName
      holding [v, ov] (setAttr ov f v)
      release [v, ov] []) := by intro _; rfl) : PG X (.Attribute o f pos) (gOst X.K f to) := by
  refine ⟨fun pins s σ H v u Q I r h => ?_⟩
  rw [ha]
  refine wpAny_bind (wpAny_holding (thn (ho.run pins s σ H _ I h) fun ov s1 ⟨x, H1, I1, r1, a, C, ex, T, hno, q⟩ => ?_))
  subst ex
  cases r1
  refine wpAny_bind (wpAny_standAt (wpAny_bind (wpAny_holding ?_)))
  rcases q with ⟨ea, q⟩ | ⟨dx, fs, ea, ed, hl, q⟩
  · exact ost_new T I1 ea hno r fun dx s' n ne J => wpAny_release ⟨σ, _, J, q dx n ne⟩
  · exact ost_old T I1 ea ed hl hno r fun s' J => wpAny_release ⟨σ, _, J, q⟩
/-- what the __init__ of an own error does: it lays what it likes, and at the end the error has these fields -/
def spV (C : Addr) (ps : List Str) : Sp := fun vs H Q _ => ∃ (a : Addr) (ws : List V), vs = .ref a :: ws ∧ ws.length = ps.length ∧ H a = some (exo a C none) ∧
  ∀ H', (∀ b o, b ≠ a → H b = some o → H' b = some o) → ((ps = [] ∧ H' a = some (exo a C none)) ∨ ∃ dx, dx ≠ a ∧ H dx = none ∧ H' a = some (exo a C (some dx)) ∧ H' dx = some (exd dx (fldsOf ps ws))) → Q .non H'
theorem fn_sp {P : Program} {w : World} {K : PySem.W.Frag} {mg : Str → Option Value} {base : Heap} {CX : CXT} {k : Nat} {f : Addr} {fd : FuncData} {ps : List Str} {sp sp' : Sp} (F : FnOk P w K mg base CX k f fd ps sp) (h : ∀ vs H Q E, sp' vs H Q E → sp vs H Q E) : FnOk P w K mg base CX k f fd ps sp' :=
  ⟨fun vs H Q E q => F.len vs H Q E (h vs H Q E q), fun A outer s H args us vs Q E hr e0 hb r hsp => F.run A outer s H args us vs Q E hr e0 hb r (h vs H Q E hsp)⟩
theorem spV_1 {C : Addr} {x : Str} : ∀ vs H Q E, spV C [x] vs H Q E → spErr C [x] vs H Q E := by
  rintro vs H Q E ⟨a, ws, e, hl, ha, q⟩
  refine ⟨a, ws, e, hl, ha, fun dx hd hne => q _ (fun b o hb h => ?_) (.inr ⟨dx, hne, hd, upd_same, by rw [upd_ne hne, upd_same]⟩)⟩
  rw [upd_ne hb, upd_ne fun z => by rw [z, hd] at h; cases h]
  exact h
theorem spV_0 {C : Addr} : ∀ vs H Q E, spV C [] vs H Q E → spErr0 C vs H Q E := by
  rintro vs H Q E ⟨a, ws, e, hl, ha, q⟩
  cases ws with
  | nil => exact ⟨a, e, ha, q H (fun _ _ _ h => h) (.inl ⟨rfl, ha⟩)⟩
  | cons _ _ => cases hl
section
variable {P : Program} {w : World} {K : PySem.W.Frag} {mg : Str → Option Value} {base : Heap} {qual x y z : Str} {scope : Scope} {f C D cc cda : Addr} {fd : FuncData} {p0 p1 p2 p3 p4 p5 p6 p7 p8 p9 q1 q2 q3 q4 q5 q6 r1 r2 r3 r4 r5 : Pos} {k1 k2 : Nat}
theorem err2 (F : SupFn P K mg f D cc cda fd qual scope [.Expr (.Call (.Attribute (.Call (.Name "super" p0) [] [] p1) "__init__" p2) [.Name x p5, .Name y p6] [] p3) p4, .Assign [.Tuple [.Attribute (.Name "self" q1) x q2, .Attribute (.Name "self" q3) y q4] k1 q5] (.Tuple [.Name x p7, .Name y p8] k2 p9) q6] "self") (S : SupScope ["self", x, y] scope)
    (T : SupCls K C D) (hno : PySem.W.findIn K (.ref C) x = some none) (hno2 : PySem.W.findIn K (.ref C) y = some none)
    (hd : (x == ("__debug__" : Str)) = false := by decide) (hcd : (x == ("__classdict__" : Str)) = false := by decide) (hd2 : (y == ("__debug__" : Str)) = false := by decide) (hcd2 : (y == ("__classdict__" : Str)) = false := by decide)
    (hev : ∀ env : Env, ∃ pl : Sem Bool, eval (.Call (.Attribute (.Call (.Name "super" p0) [] [] p1) "__init__" p2) [.Name x p5, .Name y p6] [] p3) env = (do
      let ov ← attributeBase (.Call (.Name "super" p0) [] [] p1) "__init__" env (eval (.Call (.Name "super" p0) [] [] p1) env)
      standAt p2.atName
      let (f, first) ← holding [ov] (getMethod ov "__init__" pl)
      callWith p3 f first (backTo p3 (starEach [.Name x p5, .Name y p6] env)) []) := by intro _; exact ⟨_, rfl⟩)
    (hs1 : ∀ env, swapsWithSole [.Tuple [.Attribute (.Name "self" q1) x q2, .Attribute (.Name "self" q3) y q4] k1 q5] (.Tuple [.Name x p7, .Name y p8] k2 p9) q6.line env = pure false := by intro _; rfl) : FnOk P w K mg base CX0 2 f fd ["self", x, y] (spV C [x, y]) := by
  refine fn_sup (k := 1) (hev := hev) F S rfl (fun vs H Q E h => ?_) fun A outer s H vs Q E hr h => ?_
  · obtain ⟨a, ws, rfl, hl, _⟩ := h
    show ws.length + 1 = 3
    rw [hl]
    rfl
  · obtain ⟨a, ws, rfl, hl, ha, q⟩ := h
    match ws, hl with
    | [v, u], _ =>
      have pv := fun (p : Pos) => pe_var (X := cxS CX0 P w K mg base ["self", x, y] qual scope f cda cc A outer s H E) (pos := p) (i := 1) rfl (.inl (S.par x (by simp))) hd hcd
      have pu := fun (p : Pos) => pe_var (X := cxS CX0 P w K mg base ["self", x, y] qual scope f cda cc A outer s H E) (pos := p) (i := 2) rfl (.inl (S.par y (by simp))) hd2 hcd2
      have ps := fun (p : Pos) => pe_var (X := cxS CX0 P w K mg base ["self", x, y] qual scope f cda cc A outer s H E) (pos := p) (i := 0) rfl (.inl (S.par "self" (by simp)))
      refine ⟨a, C, [v, u], _, _, rfl, ha, T, pa_cons (pv p5) (pa_cons (pu p6) pa_nil), pss_one (ps_asg (pe_tup (pa_cons (pv p7) (pa_cons (pu p8) pa_nil))) (pg_tup (n := 2) rfl (pgs_cons (pg_ost (ps q1)) (pgs_cons (pg_ost (ps q3)) pgs_nil))) (hs1 _) (swap2 _)), ?_⟩
      refine ⟨v, rfl, u, rfl, ⟨by show 2 ≤ 1000; omega, ha, v, rfl, u, rfl, ⟨by show 2 ≤ _; decide, fun p hp => ?_⟩⟩⟩
      have hpa : a ≠ p := fun e => by rw [e, hp] at ha; cases ha
      refine ⟨p, [v, u], rfl, .inl (.inl upd_same), rfl, v, [u], rfl, .ref a, rfl, a, C, rfl, T.oex, hno, .inl ⟨by rw [upd_ne hpa]; exact ha, fun dx h1 h2 => ?_⟩⟩
      refine ⟨u, [], rfl, .ref a, rfl, a, C, rfl, T.oex, hno2, .inr ⟨dx, [(x, v)], upd_same, by rw [upd_ne h2, upd_same], by show 1 ≤ 900; decide, rfl, ?_⟩⟩
      have hdp : dx ≠ p := fun e => by rw [e, upd_same] at h1; cases h1
      rw [upd_ne hdp] at h1
      refine q _ (fun b o hb h => ?_) (.inr ⟨dx, h2, h1, by rw [upd_ne (Ne.symm h2), upd_same], upd_same⟩)
      have hbd : b ≠ dx := fun e => by rw [e, h1] at h; cases h
      have hbp : b ≠ p := fun e => by rw [e, hp] at h; cases h
      rw [upd_ne hbd, upd_ne hb, upd_ne hbd, upd_ne hbp]
      exact h
theorem err3 (F : SupFn P K mg f D cc cda fd qual scope [.Expr (.Call (.Attribute (.Call (.Name "super" p0) [] [] p1) "__init__" p2) [.Name x p5, .Name y p6, .Name z r3] [] p3) p4, .Assign [.Tuple [.Attribute (.Name "self" q1) x q2, .Attribute (.Name "self" q3) y q4, .Attribute (.Name "self" r1) z r2] k1 q5] (.Tuple [.Name x p7, .Name y p8, .Name z r4] k2 p9) q6] "self") (S : SupScope ["self", x, y, z] scope)
    (T : SupCls K C D) (hno : PySem.W.findIn K (.ref C) x = some none) (hno2 : PySem.W.findIn K (.ref C) y = some none) (hno3 : PySem.W.findIn K (.ref C) z = some none)
    (hd : (x == ("__debug__" : Str)) = false := by decide) (hcd : (x == ("__classdict__" : Str)) = false := by decide) (hd2 : (y == ("__debug__" : Str)) = false := by decide) (hcd2 : (y == ("__classdict__" : Str)) = false := by decide)
    (hd3 : (z == ("__debug__" : Str)) = false := by decide) (hcd3 : (z == ("__classdict__" : Str)) = false := by decide)
    (hev : ∀ env : Env, ∃ pl : Sem Bool, eval (.Call (.Attribute (.Call (.Name "super" p0) [] [] p1) "__init__" p2) [.Name x p5, .Name y p6, .Name z r3] [] p3) env = (do
      let ov ← attributeBase (.Call (.Name "super" p0) [] [] p1) "__init__" env (eval (.Call (.Name "super" p0) [] [] p1) env)
      standAt p2.atName
      let (f, first) ← holding [ov] (getMethod ov "__init__" pl)
      callWith p3 f first (backTo p3 (starEach [.Name x p5, .Name y p6, .Name z r3] env)) []) := by intro _; exact ⟨_, rfl⟩)
    (hs1 : ∀ env, swapsWithSole [.Tuple [.Attribute (.Name "self" q1) x q2, .Attribute (.Name "self" q3) y q4, .Attribute (.Name "self" r1) z r2] k1 q5] (.Tuple [.Name x p7, .Name y p8, .Name z r4] k2 p9) q6.line env = pure false := by intro _; rfl) : FnOk P w K mg base CX0 2 f fd ["self", x, y, z] (spV C [x, y, z]) := by
  refine fn_sup (k := 1) (hev := hev) F S rfl (fun vs H Q E h => ?_) fun A outer s H vs Q E hr h => ?_
  · obtain ⟨a, ws, rfl, hl, _⟩ := h
    show ws.length + 1 = 4
    rw [hl]
    rfl
  · obtain ⟨a, ws, rfl, hl, ha, q⟩ := h
    match ws, hl with
    | [v, u, t], _ =>
      have pv := fun (p : Pos) => pe_var (X := cxS CX0 P w K mg base ["self", x, y, z] qual scope f cda cc A outer s H E) (pos := p) (i := 1) rfl (.inl (S.par x (by simp))) hd hcd
      have pu := fun (p : Pos) => pe_var (X := cxS CX0 P w K mg base ["self", x, y, z] qual scope f cda cc A outer s H E) (pos := p) (i := 2) rfl (.inl (S.par y (by simp))) hd2 hcd2
      have pt := fun (p : Pos) => pe_var (X := cxS CX0 P w K mg base ["self", x, y, z] qual scope f cda cc A outer s H E) (pos := p) (i := 3) rfl (.inl (S.par z (by simp))) hd3 hcd3
      have ps := fun (p : Pos) => pe_var (X := cxS CX0 P w K mg base ["self", x, y, z] qual scope f cda cc A outer s H E) (pos := p) (i := 0) rfl (.inl (S.par "self" (by simp)))
      refine ⟨a, C, [v, u, t], _, _, rfl, ha, T, pa_cons (pv p5) (pa_cons (pu p6) (pa_cons (pt r3) pa_nil)), pss_one (ps_asg (pe_tup (pa_cons (pv p7) (pa_cons (pu p8) (pa_cons (pt r4) pa_nil)))) (pg_tup (n := 3) rfl (pgs_cons (pg_ost (ps q1)) (pgs_cons (pg_ost (ps q3)) (pgs_cons (pg_ost (ps r1)) pgs_nil)))) (hs1 _) (swap3 _)), ?_⟩
      refine ⟨v, rfl, u, rfl, t, rfl, ⟨by show 3 ≤ 1000; omega, ha, v, rfl, u, rfl, t, rfl, ⟨by show 3 ≤ _; decide, fun p hp => ?_⟩⟩⟩
      have hpa : a ≠ p := fun e => by rw [e, hp] at ha; cases ha
      refine ⟨p, [v, u, t], rfl, .inl (.inl upd_same), rfl, v, [u, t], rfl, .ref a, rfl, a, C, rfl, T.oex, hno, .inl ⟨by rw [upd_ne hpa]; exact ha, fun dx h1 h2 => ?_⟩⟩
      have hdp : dx ≠ p := fun e => by rw [e, upd_same] at h1; cases h1
      rw [upd_ne hdp] at h1
      refine ⟨u, [t], rfl, .ref a, rfl, a, C, rfl, T.oex, hno2, .inr ⟨dx, [(x, v)], upd_same, by rw [upd_ne h2, upd_same], by show 1 ≤ 900; decide, ?_⟩⟩
      refine ⟨t, [], rfl, .ref a, rfl, a, C, rfl, T.oex, hno3, .inr ⟨dx, [(y, u), (x, v)], by rw [upd_ne (Ne.symm h2), upd_same], upd_same, by show 2 ≤ 900; decide, rfl, ?_⟩⟩
      refine q _ (fun b o hb h => ?_) (.inr ⟨dx, h2, h1, by rw [upd_ne (Ne.symm h2), upd_ne (Ne.symm h2), upd_same], upd_same⟩)
      have hbd : b ≠ dx := fun e => by rw [e, h1] at h; cases h
      have hbp : b ≠ p := fun e => by rw [e, hp] at h; cases h
      rw [upd_ne hbd, upd_ne hbd, upd_ne hb, upd_ne hbd, upd_ne hbp]
      exact h
end
/-! ### making such errors -/
/-- what is known of an own error class that makes values -/
structure ErrV (P : Program) (w : World) (K : PySem.W.Frag) (mg : Str → Option Value) (C : String) (ps : List Str) : Prop where
  glob : mg C = some (.ref (He.ga K C))
  oex : OexC K (He.ga K C)
  few : ps.length ≤ 100
  ini : ∃ (fI : Addr) (fd : FuncData), PySem.W.findIn K (.ref (He.ga K C)) "__init__" = some (some (.ref fI)) ∧ PySem.W.typeIn K (.ref fI) = some (.type "function") ∧ Binds K fd ("self" :: ps) [] ∧
    ∀ base : Heap, FnOk P w K mg base CX0 2 fI fd ("self" :: ps) (spV (He.ga K C) ps)
def mErr (C : String) (ps : List Str) (mA : MA) : ME := fun ρ st => (mA ρ st).bind fun p => if p.1.length = ps.length then some (.exv C ((fldsOf ps p.1).map (·.1)) ((fldsOf ps p.1).map (·.2)), p.2) else none
section
variable {X : Cx}
/-- C(es) as a value: a new error -/
theorem call_oex {pins : List (Addr × Obj)} {σ : L2.St} {H1 : Hp} {s1 : Shared} {us : List Value} {vs : List V} {Q : VK} {CX : CXT} {C fI : Addr} {k : Nat} {fd : FuncData} {ps : List Str} {sp : Sp} (T : OexC X.K C) (iC : PySem.W.findIn X.K (.ref C) "__init__" = some (some (.ref fI))) (tI : PySem.W.typeIn X.K (.ref fI) = some (.type "function"))
    (F1 : FnOk X.prog X.w X.K X.mg X.base CX k fI fd ps sp) (hr : Room (k + 1) X.A) (hb : Binds X.K fd ps []) (hx : Passes CX X (fun _ _ _ => False)) (I1 : Inv X pins σ H1 s1) (r1 : Vals vs us) (hz : vs.length ≤ 1000)
    (q1 : ∀ a, H1 a = none → sp (.ref a :: vs) (upd H1 a (exo a C none)) (fun v H2 => v = .non ∧ Q (.ref a) H2) (fun _ _ _ => False)) : wpAny (model X.prog X.w) X.A (call (.ref C) us) (EP X pins σ Q) X.xe s1 := by
  obtain ⟨nm, q, N, bs, bm, sn, sub, ab, col, dd, k0, k1, k2, k3, k5, hC, hbm⟩ := T.cls
  obtain ⟨hp, g, dr, tk, os⟩ := s1
  have hsz : hp.objs.size ≤ hp.objs.size + 1 := Nat.le_succ _
  have hn : H1 (hp.objs.size + 1) = none := I1.hok.fresh hsz
  have hq := q1 (hp.objs.size + 1) hn
  have kk : ∀ b o, hp.get? b = some o → ((hp.push (PySem.W.kdv_tup us)).push (PySem.HandSPX.excO C hp.objs.size)).get? b = some o := fun b o e => Heap.get?_push_of_some _ (Heap.get?_push_of_some _ e)
  have hget : ((hp.push (PySem.W.kdv_tup us)).push (PySem.HandSPX.excO C hp.objs.size)).get? (hp.objs.size + 1) = some (PySem.HandSPX.excO C hp.objs.size) := by heap_get
  have I2 : Inv X pins σ (upd H1 (hp.objs.size + 1) (exo (hp.objs.size + 1) C none)) ⟨(hp.push (PySem.W.kdv_tup us)).push (PySem.HandSPX.excO C hp.objs.size), g, dr, tk, os⟩ :=
    I1.laid (t' := tk) (a := hp.objs.size + 1) (o := exo (hp.objs.size + 1) C none) (h' := (hp.push (PySem.W.kdv_tup us)).push (PySem.HandSPX.excO C hp.objs.size)) kk hsz (exo_ok hget)
  have r2 : Vals (V.ref (hp.objs.size + 1) :: vs) (Value.ref (hp.objs.size + 1) :: us) := .cons rfl r1
  have hl : (Value.ref (hp.objs.size + 1) :: us ++ ([] : List Value)).length = ps.length := by
    have e := r2.length
    rw [F1.len _ _ _ _ hq] at e
    rw [List.append_nil]
    exact e.symm
  have hus : us.length ≤ sizeLine := by
    rw [← Paired.length r1, sizeLine_eq]
    omega
  have hb2 := hb _ (Value.ref (hp.objs.size + 1) :: us) I2.kIn hl
  rw [List.append_nil] at hb2
  refine wpAny_call (PySem.HandSPX.call_own PySem.F.excBase_ValueError (fun Y => PySem.HandSPX.refsVE_contains Y bm hbm) (I1.kIn _ _ hC) (PySem.W.looks_findIn I1.kIn iC) (fun self => PySem.W.bind_fn I1.kIn self tI) hus
    (codeAny_mono (F1.run _ X.stack _ _ ⟨Value.ref (hp.objs.size + 1) :: us, []⟩ (Value.ref (hp.objs.size + 1) :: us) _ _ (fun _ _ _ => False) (hr.make C us []) (I2.env0.make C us []) hb2 r2 hq) fun r s' hq' => ?_))
  cases r with
  | error er => exact hx pins σ _ _ er s' I2 hq'
  | ok fl =>
    cases fl with
    | ret u =>
      obtain ⟨v, H2, J, rv, ev, q2⟩ := I2.after hq'
      subst ev
      exact ⟨rv, .ref (hp.objs.size + 1), H2, J, rfl, q2⟩
    | next => exact False.elim hq'
    | brk => exact False.elim hq'
    | cont => exact False.elim hq'
variable {e : Expr} {es : List Expr} {mA : MA} {C : String} {ps : List Str} {p pos : Pos} {ta : TA}
def tVal (C : Addr) (sp : Sp) (ta : TA) : TE := fun σ H Q => ta σ H fun vs H1 => vs.length ≤ 1000 ∧ ∀ a, H1 a = none → sp (.ref a :: vs) (upd H1 a (exo a C none)) (fun v H2 => v = .non ∧ Q (.ref a) H2) (fun _ _ _ => False)
theorem pe_val (R : ErrV X.prog X.w X.K X.mg C ps) (hr : Room 3 X.A) (hg : Gl X C) (ha : PA X (e :: es) ta)
    (hdb : ((C : Str) == ("__debug__" : Str)) = false := by decide) (he : starEach (e :: es) X.env = (false, eval e X.env) :: starEach es X.env := by rfl) (hpl : (backTo pos (starEach es X.env)).any (·.1) = false := by rfl) :
    PE X (.Call (.Name C p) (e :: es) [] pos) (tVal (He.ga X.K C) (spV (He.ga X.K C) ps) ta) := by
  obtain ⟨fI, fd, hi, ht, hb, F⟩ := R.ini
  refine ⟨fun pins s σ H Q I h => ?_⟩
  refine wpAny_Call_Name_kw (ld_glob I hg R.glob ?_ hdb)
  refine PySem.W.callWith_K (h₀ := X.base) I.ok.mod.kin R.oex.kC (thn (ha.run pos pins s σ H _ I h) fun us s1 ⟨vs, H1, I1, r1, hz, q1⟩ => ⟨I1.kIn, ?_⟩) he hpl
  show wpAny _ _ (call (.ref (He.ga X.K C)) us) _ _ _
  exact call_oex R.oex hi ht (F X.base) hr hb (fun _ _ _ _ _ _ _ z => z.elim) I1 r1 hz q1
theorem pe_val0 (R : ErrV X.prog X.w X.K X.mg C []) (hr : Room 3 X.A) (hg : Gl X C) (hdb : ((C : Str) == ("__debug__" : Str)) = false := by decide) :
    PE X (.Call (.Name C p) [] [] pos) (tVal (He.ga X.K C) (spV (He.ga X.K C) []) fun _ H Q => Q [] H) := by
  obtain ⟨fI, fd, hi, ht, hb, F⟩ := R.ini
  refine ⟨fun pins s σ H Q I h => ?_⟩
  refine wpAny_Call_Name_kw (ld_glob I hg R.glob ?_ hdb)
  refine PySem.W.callWith_K0 I.kIn R.oex.kC ?_
  show wpAny _ _ (call (.ref (He.ga X.K C)) []) _ _ _
  exact call_oex R.oex hi ht (F X.base) hr hb (fun _ _ _ _ _ _ _ z => z.elim) I .nil h.1 h.2
theorem ev_val {K : PySem.W.Frag} {hid W1 : List Addr} {s1 : State} {H1 : Hp} {vs : List V} {ds : List D} {Q : VK} (hf : ps.length ≤ 100) (o1 : Good K hid W1 s1 H1) (r1 : RpAll K W1 (hd (hid ++ W1) H1) vs ds) (hl : ds.length = ps.length)
    (q : ∀ W' v H', Gr W1 H1 W' H' → Good K hid W' s1 H' → Rp K W' (hd (hid ++ W') H') v (.exv C ((fldsOf ps ds).map (·.1)) ((fldsOf ps ds).map (·.2))) → Q v H') :
    vs.length ≤ 1000 ∧ ∀ a, H1 a = none → spV (He.ga K C) ps (.ref a :: vs) (upd H1 a (exo a (He.ga K C) none)) (fun v H2 => v = .non ∧ Q (.ref a) H2) (fun _ _ _ => False) := by
  have hlv := r1.length
  refine ⟨by omega, fun a ha => ⟨a, vs, rfl, by omega, upd_same, fun H' hk hor => ⟨rfl, ?_⟩⟩⟩
  have k : ∀ b o, H1 b = some o → H' b = some o := fun b o h => by
    have hb : b ≠ a := fun z => by rw [z, ha] at h; cases h
    exact hk b o hb (by rw [upd_ne hb]; exact h)
  have gr : Gr W1 H1 W1 H' := ⟨fun _ _ z => z, fun _ z => .inl z, fun b o _ z => k b o z, fun b o _ z => ⟨o, k b o z, rfl⟩⟩
  have go : Good K hid W1 s1 H' := o1.grow gr fun b hb => by
    obtain ⟨u, hu, _⟩ := o1.at hb
    rw [k _ _ hu, hu]
  refine q W1 _ H' gr go ?_
  rcases hor with ⟨rfl, h1⟩ | ⟨dx, hne, hd0, h1, h2⟩
  · exact .exv0 (hd_some.mpr ⟨o1.off ha, h1⟩)
  · rw [upd_ne hne] at hd0
    obtain ⟨z1, z2⟩ := rps_zip (ps := ps) (gr.rps r1) hl
    rw [← z1]
    exact .exv (hd_some.mpr ⟨o1.off ha, h1⟩) (hd_some.mpr ⟨o1.off hd0, h2⟩) z2
theorem d_err (R : ErrV X.prog X.w X.K X.mg C ps) (hr : Room 3 X.A) (hg : Gl X C) (ha : AD X (e :: es) mA)
    (hdb : ((C : Str) == ("__debug__" : Str)) = false := by decide) (he : starEach (e :: es) X.env = (false, eval e X.env) :: starEach es X.env := by rfl) (hpl : (backTo pos (starEach es X.env)).any (·.1) = false := by rfl) :
    ED X (.Call (.Name C p) (e :: es) [] pos) (mErr C ps mA) := by
  obtain ⟨_, p1, q1⟩ := ha.ex
  refine ⟨_, pe_val R hr hg p1 hdb he hpl, ?_⟩
  intro hid W st H ρ σ d st' g rs e Q q
  obtain ⟨⟨ds, s1⟩, e1, e2⟩ := Option.bind_eq_some_iff.mp e
  refine q1 hid W st H ρ σ ds s1 g rs e1 _ fun W1 vs H1 g1 o1 r1 => ?_
  split at e2
  · rename_i hl
    cases e2
    exact ev_val R.few o1 r1 hl fun W' v H' G g' r' => q W' v H' (g1.trans G) g' r'
  · cases e2
theorem d_err0 (R : ErrV X.prog X.w X.K X.mg C []) (hr : Room 3 X.A) (hg : Gl X C) (hdb : ((C : Str) == ("__debug__" : Str)) = false := by decide) : ED X (.Call (.Name C p) [] [] pos) (mC (.exv C [] [])) := by
  refine ⟨_, pe_val0 R hr hg hdb, ?_⟩
  intro hid W st H ρ σ d st' g rs e Q q
  cases e
  exact ev_val (ps := []) R.few g .nil rfl fun W' v H' G g' r' => q W' v H' G g' r'
end
end Ask

namespace Ask
open PySem PySem.Spec PySem.Calls PyProof.Rows L2
/-! ## errors as values: of a class without an own __init__; their fields; their classes -/
structure ErrP (K : PySem.W.Frag) (mg : Str → Option Value) (C : String) : Prop where
  glob : mg C = some (.ref (He.ga K C))
  kC : PySem.W.keepIn K (.ref (He.ga K C)) = true
  exc : PySem.W.excIn K (He.ga K C) [.type "ValueError", .type "Exception", .type "BaseException", .type "object"] "ValueError.__new__" = true
section
variable {X : Cx} {C : String} {e : Expr} {es : List Expr} {mA : MA} {ta : TA} {p pos : Pos}
theorem call_exN {pins : List (Addr × Obj)} {σ : L2.St} {H1 : Hp} {s1 : Shared} {us : List Value} {vs : List V} {Q : VK} {A : Addr} (q : PySem.W.excIn X.K A [.type "ValueError", .type "Exception", .type "BaseException", .type "object"] "ValueError.__new__" = true) (I1 : Inv X pins σ H1 s1) (r1 : Vals vs us) (hz : vs.length ≤ 1000)
    (q1 : ∀ a, H1 a = none → Q (.ref a) (upd H1 a (exo a A none))) : wpAny (model X.prog X.w) X.A (call (.ref A) us) (EP X pins σ Q) X.xe s1 := by
  obtain ⟨bm, N, nm, qn, bs, hdct, sn, sub, ab, col, dd, k0, k1, k2, k3, k5, mN, hC, hN, hni, T⟩ := exc_obj I1.kIn q
  have hus : us.length ≤ sizeLine := by
    rw [← Paired.length r1, sizeLine_eq]
    omega
  refine wpAny_call_exc_subT PySem.F.excBase_ValueError T hC hN hni (fun h' a hm => ?_) hus
  have hn : H1 a = none := I1.hok.gone hm.new
  obtain ⟨t, ht, _, _⟩ := hm.there
  exact ⟨.ref a, upd H1 a (exo a A none), I1.laidN hm.keeps hm.new hn (exo_ok ht), rfl, q1 a hn⟩
def tExN (A : Addr) (ta : TA) : TE := fun σ H Q => ta σ H fun vs H1 => vs.length ≤ 1000 ∧ ∀ a, H1 a = none → Q (.ref a) (upd H1 a (exo a A none))
theorem pe_exN (R : ErrP X.K X.mg C) (hg : Gl X C) (ha : PA X (e :: es) ta)
    (hdb : ((C : Str) == ("__debug__" : Str)) = false := by decide) (he : starEach (e :: es) X.env = (false, eval e X.env) :: starEach es X.env := by rfl) (hpl : (backTo pos (starEach es X.env)).any (·.1) = false := by rfl) :
    PE X (.Call (.Name C p) (e :: es) [] pos) (tExN (He.ga X.K C) ta) := by
  refine ⟨fun pins s σ H Q I h => ?_⟩
  refine wpAny_Call_Name_kw (ld_glob I hg R.glob ?_ hdb)
  refine PySem.W.callWith_K (h₀ := X.base) I.ok.mod.kin R.kC (thn (ha.run pos pins s σ H _ I h) fun us s1 ⟨vs, H1, I1, r1, hz, q1⟩ => ⟨I1.kIn, ?_⟩) he hpl
  show wpAny _ _ (call (.ref (He.ga X.K C)) us) _ _ _
  exact call_exN R.exc I1 r1 hz q1
theorem pe_exN0 (R : ErrP X.K X.mg C) (hg : Gl X C) (hdb : ((C : Str) == ("__debug__" : Str)) = false := by decide) :
    PE X (.Call (.Name C p) [] [] pos) (tExN (He.ga X.K C) fun _ H Q => Q [] H) := by
  refine ⟨fun pins s σ H Q I h => ?_⟩
  refine wpAny_Call_Name_kw (ld_glob I hg R.glob ?_ hdb)
  refine PySem.W.callWith_K0 I.kIn R.kC ?_
  show wpAny _ _ (call (.ref (He.ga X.K C)) []) _ _ _
  exact call_exN R.exc I .nil h.1 h.2
def mErrN (C : String) (mA : MA) : ME := fun ρ st => (mA ρ st).bind fun p => if p.1.length ≤ 1000 then some (.exv C [] [], p.2) else none
theorem d_errN (R : ErrP X.K X.mg C) (hg : Gl X C) (ha : AD X (e :: es) mA)
    (hdb : ((C : Str) == ("__debug__" : Str)) = false := by decide) (he : starEach (e :: es) X.env = (false, eval e X.env) :: starEach es X.env := by rfl) (hpl : (backTo pos (starEach es X.env)).any (·.1) = false := by rfl) :
    ED X (.Call (.Name C p) (e :: es) [] pos) (mErrN C mA) := by
  obtain ⟨_, p1, q1⟩ := ha.ex
  refine ⟨_, pe_exN R hg p1 hdb he hpl, ?_⟩
  intro hid W st H ρ σ d st' g rs e Q q
  obtain ⟨⟨ds, s1⟩, e1, e2⟩ := Option.bind_eq_some_iff.mp e
  refine q1 hid W st H ρ σ ds s1 g rs e1 _ fun W1 vs H1 g1 o1 r1 => ?_
  split at e2
  · rename_i hl
    cases e2
    exact ⟨by rw [r1.length]; exact hl, fun a ha => q W1 _ _ (g1.trans (Gr.new1 ha)) (o1.new1 ha) (.exv0 (o1.hd1 ha))⟩
  · cases e2
theorem d_errN0 (R : ErrP X.K X.mg C) (hg : Gl X C) (hdb : ((C : Str) == ("__debug__" : Str)) = false := by decide) : ED X (.Call (.Name C p) [] [] pos) (mC (.exv C [] [])) := by
  refine ⟨_, pe_exN0 R hg hdb, ?_⟩
  intro hid W st H ρ σ d st' g rs e Q q
  cases e
  exact ⟨Nat.zero_le _, fun a ha => q W _ _ (Gr.new1 ha) (g.new1 ha) (.exv0 (g.hd1 ha))⟩
end
/-! ### e.f -/
structure FldV (K : PySem.W.Frag) (C : String) (f : Str) : Prop where
  xf : XfC K (He.ga K C)
  no : PySem.W.findIn K (.ref (He.ga K C)) f = some none
def fldV (C : String) (f : Str) : State → D → Option D := fun _ a => match a with
  | .exv C' ks ds => if C' = C then (ks.zip ds).lookup f else none
  | _ => none
theorem pe_fldV {X : Cx} {C : Addr} {e : Expr} {te : TE} {pos : Pos} {n : Str} (T : XfC X.K C) (hno : PySem.W.findIn X.K (.ref C) n = some none) (he : PE X e te) (hb : attributeBase e n X.env (eval e X.env) = eval e X.env := by rfl) :
    PE X (.Attribute e n pos) (fun σ H Q => te σ H fun x H1 => ∃ (a dd : Addr) (fs : List (Str × V)) (v : V), x = .ref a ∧ H1 a = some (exo a C (some dd)) ∧ H1 dd = some (exd dd fs) ∧ fs.lookup n = some v ∧ Q v H1) := by
  refine ⟨fun pins s σ H Q I h => ?_⟩
  refine attr_of hb (thn (he.run pins s σ H _ I h) fun u s1 hh => ?_)
  obtain ⟨x, H1, I1, rx, a, dd, fs, v, ex, ha, ed, l, q⟩ := hh
  subst ex
  obtain rfl : u = Value.ref a := rx
  obtain ⟨t1, ho1⟩ := exo_at I1.hok ha
  obtain ⟨mA, hns, hr⟩ := exd_at I1.hok ed
  obtain ⟨od, ho, hl⟩ := lookIn_ns hns
  obtain ⟨u, hu, ru⟩ := RelO.some_of (v := v) (o := mA n) (by rw [← l]; exact hr n)
  have J : PySem.W.InstAt s1.heap a _ C (some od) := ⟨ho1, rfl, rfl, ho⟩
  exact HandSPX.exc_get I1.kIn J T.ga T.gg T.exC (PySem.W.findObj_own T.hdC hno rfl (by rw [hl, hu])) (handed_of ru) ⟨v, H1, I1.tok _, ru, q⟩
theorem d_fldV {X : Cx} {C : String} {e : Expr} {me : ME} {pos : Pos} {f : Str} (T : FldV X.K C f) (he : ED X e me) (hb : attributeBase e f X.env (eval e X.env) = eval e X.env := by rfl) : ED X (.Attribute e f pos) (m1 (fldV C f) me) := by
  obtain ⟨_, p1, q1⟩ := he.ex
  refine ⟨_, pe_fldV T.xf T.no p1 hb, ev_1 (rr := fun x H1 Q => ∃ (a dd : Addr) (fs : List (Str × V)) (v : V), x = .ref a ∧ H1 a = some (exo a (He.ga X.K C) (some dd)) ∧ H1 dd = some (exd dd fs) ∧ fs.lookup f = some v ∧ Q v H1) ?_ q1⟩
  intro hid W st H x a0 d0 go r e Q q
  unfold fldV at e
  split at e
  · split at e
    · rename_i h
      subst h
      cases r with
      | exv h1 h2 h3 =>
        obtain ⟨v, k1, k2⟩ := look_rp h3 e
        exact ⟨_, _, _, v, rfl, hd_sub _ _ h1, hd_sub _ _ h2, k1, q v H Gr.refl go k2⟩
      | exv0 => cases e
    · cases e
  · cases e
/-! ### isinstance(e, C) -/
def rIsV (K : PySem.W.Frag) : List V → Hp → VK → Prop := fun xs H Q => ∃ (a C : Addr) (dv : Option Addr) (c : V) (cv : Value) (b : Bool), xs = [.ref a, c] ∧ ExcC K C ∧ H a = some (exo a C dv) ∧ (∀ d, dv = some d → ∃ fs, H d = some (exd d fs)) ∧ (∀ u, RelV c u → u = cv) ∧ PySem.W.kitOne K (.ref C) cv = some b ∧ Q (.bl b) H
theorem call_isV {X : Cx} : CallR X (.builtin "isinstance") (rIsV X.K) := by
  intro pins s σ H xs us Q I r h
  obtain ⟨a, C, dv, c, cv, b, rfl, T, ha, hdx, hcv, e, q⟩ := h
  cases r with
  | cons rx rr =>
    cases rr with
    | cons rt rr =>
      cases rr
      cases rx
      have ec := hcv _ rt
      subst ec
      obtain ⟨t1, ho1⟩ := exo_at I.hok ha
      obtain ⟨oe, od, J⟩ : ∃ oe od, PySem.W.InstAt s.heap a oe C od := by
        cases dv with
        | none => exact ⟨_, none, ho1, rfl, rfl, trivial⟩
        | some d =>
          obtain ⟨fs, hd⟩ := hdx d rfl
          obtain ⟨mA, hns, hr⟩ := exd_at I.hok hd
          obtain ⟨od, ho, hl⟩ := lookIn_ns hns
          exact ⟨_, some od, ho1, rfl, rfl, ho⟩
      exact PySem.W.kia_one (kitx_exD T) I.kIn J e (fun z => nomatch z) fun tk => ⟨.bl b, H, I.kept (t' := tk) fun _ _ z => z, rfl, q⟩
/-- the classes of errors that are told apart: anc says of c that all errors are such -/
def isK (names : List String) (C : String) (anc : Bool) : State → D → Option D := fun _ z => match z with
  | .exv E _ _ => if names.contains E = true then some (.bl (E == C || anc)) else none
  | _ => none
structure KindT (K : PySem.W.Frag) (names : List String) (cv : Value) (C : String) (anc : Bool) : Prop where
  one : ∀ E, names.contains E = true → ExcC K (He.ga K E) ∧ PySem.W.kitOne K (.ref (He.ga K E)) cv = some (E == C || anc)
section
variable {X : Cx} {K : PySem.W.Frag} {C : String} {names : List String} {anc : Bool} {e : Expr} {me : ME} {p p2 pos : Pos}
def isKN (names : List String) (C : String) (anc : Bool) (t : D) : State → List D → Option D := fun st as => match as, t with
  | [z, .ref c'], .ref c => if c' = c then isK names C anc st z else none
  | [z, .ty S'], .ty S => if S' = S then isK names C anc st z else none
  | _, _ => none
theorem rn_isK {c : Addr} (T : KindT K names (.ref c) C anc) : RNO K (rIsV K) (isKN names C anc (.ref c)) := by
  intro hid W st H xs as z go r e Q q
  unfold isKN at e
  split at e
  · rename_i zz c' c2 heq
    cases heq
    split at e
    · rename_i h
      subst h
      match r with
      | .cons h1 (.cons (.ref _) .nil) =>
        unfold isK at e
        split at e
        · split at e
          · rename_i hn
            cases e
            obtain ⟨t1, t2⟩ := T.one _ hn
            cases h1 with
            | exv k1 k2 k3 => exact ⟨_, _, _, _, _, _, rfl, t1, hd_sub _ _ k1, fun d hd => by cases hd; exact ⟨_, hd_sub _ _ k2⟩, fun u hu => by cases hu; rfl, t2, q _ H Gr.refl go (.bl _)⟩
            | exv0 k1 => exact ⟨_, _, _, _, _, _, rfl, t1, hd_sub _ _ k1, (fun d hd => nomatch hd), fun u hu => by cases hu; rfl, t2, q _ H Gr.refl go (.bl _)⟩
          · cases e
        · cases e
    · cases e
  · rename_i heq
    cases heq
  · cases e
theorem rn_isKT {S : String} (T : KindT K names (.type S) C anc) : RNO K (rIsV K) (isKN names C anc (.ty S)) := by
  intro hid W st H xs as z go r e Q q
  unfold isKN at e
  split at e
  · rename_i heq
    cases heq
  · rename_i zz c' c2 heq
    cases heq
    split at e
    · rename_i h
      subst h
      match r with
      | .cons h1 (.cons (.ty _) .nil) =>
        unfold isK at e
        split at e
        · split at e
          · rename_i hn
            cases e
            obtain ⟨t1, t2⟩ := T.one _ hn
            cases h1 with
            | exv k1 k2 k3 => exact ⟨_, _, _, _, _, _, rfl, t1, hd_sub _ _ k1, fun d hd => by cases hd; exact ⟨_, hd_sub _ _ k2⟩, fun u hu => by cases hu; rfl, t2, q _ H Gr.refl go (.bl _)⟩
            | exv0 k1 => exact ⟨_, _, _, _, _, _, rfl, t1, hd_sub _ _ k1, (fun d hd => nomatch hd), fun u hu => by cases hu; rfl, t2, q _ H Gr.refl go (.bl _)⟩
          · cases e
        · cases e
    · cases e
  · cases e
theorem d_isK (T : KindT X.K names (.ref (He.ga X.K C)) C anc) (hg : Gl X "isinstance") (hm : X.mg "isinstance" = none) (hgx : Gl X C) (hmx : X.mg C = some (.ref (He.ga X.K C))) (he : ED X e me) (hdx : ((C : Str) == ("__debug__" : Str)) = false := by decide)
    (hv : bootBuiltins "isinstance" = some (.builtin "isinstance") := by decide +kernel)
    (hst : starEach [e, .Name C p2] X.env = (false, eval e X.env) :: starEach [.Name C p2] X.env := by rfl) (hst2 : starEach [.Name C p2] X.env = (false, eval (.Name C p2) X.env) :: starEach [] X.env := by rfl) :
    ED X (.Call (.Name "isinstance" p) [e, .Name C p2] [] pos) (m1 (isK names C anc) me) := by
  have h := d_callB (X := X) (p := p) (pos := pos) call_isV (rn_isK T) hg hm hv (a_cons he (a_cons (d_gcls hgx hmx hdx) a_nil hst2) hst) (he := hst)
  rw [mN_c] at h
  have e2 : (fun (st : State) (z : D) => isKN names C anc (.ref (He.ga X.K C)) st [z, .ref (He.ga X.K C)]) = isK names C anc := by
    funext st z
    simp [isKN]
  rw [e2] at h
  exact h
end
end Ask

/-! ## errors as values: what the head tells of them -/
namespace Ask
open PySem PySem.Spec PySem.Calls PyProof.Rows L2
section
variable {P : Program} {w : World} {K : PySem.W.Frag} {mg : Str → Option Value} {d : ErD} {x y z : Str} {ar : Arg} {p0 p1 p2 p3 p4 p5 p6 p7 p8 p9 q1 q2 q3 q4 q5 q6 r1 r2 r3 r4 : Pos} {k1 k2 : Nat}
theorem err0V (c : ErSays P K mg d) (gl : mg d.C = some (.ref (He.ga K d.C))) (S : SupScope ["self"] d.scope)
    (hb : d.body = [.Expr (.Call (.Attribute (.Call (.Name "super" p0) [] [] p1) "__init__" p2) [] [] p3) p4])
    (har : (d.params.posonlyargs ++ d.params.args).head? = some ar) (hself : ar.arg = "self")
    (hbind : ∀ (kV doc pm : Value) (an : Option Addr) (cdv ct : Value) (cc : Addr) (us : List Value), us.length = 1 → bindArgs (PySem.W.ksFn "__init__" d.q d.params d.body d.scope .none kV doc pm an cdv ct cc) ⟨us, []⟩ = pure (([("self" : Str)] : List Str).zip us))
    (hev : ∀ env : Env, ∃ pl : Sem Bool, eval (.Call (.Attribute (.Call (.Name "super" p0) [] [] p1) "__init__" p2) [] [] p3) env = (do
      let ov ← attributeBase (.Call (.Name "super" p0) [] [] p1) "__init__" env (eval (.Call (.Name "super" p0) [] [] p1) env)
      standAt p2.atName
      let (f, first) ← holding [ov] (getMethod ov "__init__" pl)
      callWith p3 f first (backTo p3 (starEach [] env)) []) := by intro _; exact ⟨_, rfl⟩) : ErrV P w K mg d.C [] := by
  obtain ⟨cc, cda, fd, F, kV, doc, pm, an, ct, efd⟩ := c.ex
  have F := F ar har hself
  rw [hb] at F
  refine ⟨gl, c.cls.oex, Nat.zero_le _, _, fd, c.ini, c.fn, Binds.all fun us hl => ?_, fun base => fn_sp (err0 F S c.cls hev) spV_0⟩
  rw [efd]
  exact hbind kV doc pm an _ ct cc us hl
theorem err1V (c : ErSays P K mg d) (gl : mg d.C = some (.ref (He.ga K d.C))) (hx : d.fld = [x]) (S : SupScope ["self", x] d.scope)
    (hb : d.body = [.Expr (.Call (.Attribute (.Call (.Name "super" p0) [] [] p1) "__init__" p2) [.Name x p5] [] p3) p4, .Assign [.Attribute (.Name "self" p6) x p7] (.Name x p8) p9])
    (har : (d.params.posonlyargs ++ d.params.args).head? = some ar) (hself : ar.arg = "self")
    (hbind : ∀ (kV doc pm : Value) (an : Option Addr) (cdv ct : Value) (cc : Addr) (us : List Value), us.length = 2 → bindArgs (PySem.W.ksFn "__init__" d.q d.params d.body d.scope .none kV doc pm an cdv ct cc) ⟨us, []⟩ = pure (([("self" : Str), x] : List Str).zip us))
    (hd : (x == ("__debug__" : Str)) = false := by decide) (hcd : (x == ("__classdict__" : Str)) = false := by decide)
    (hev : ∀ env : Env, ∃ pl : Sem Bool, eval (.Call (.Attribute (.Call (.Name "super" p0) [] [] p1) "__init__" p2) [.Name x p5] [] p3) env = (do
      let ov ← attributeBase (.Call (.Name "super" p0) [] [] p1) "__init__" env (eval (.Call (.Name "super" p0) [] [] p1) env)
      standAt p2.atName
      let (f, first) ← holding [ov] (getMethod ov "__init__" pl)
      callWith p3 f first (backTo p3 (starEach [.Name x p5] env)) []) := by intro _; exact ⟨_, rfl⟩) : ErrV P w K mg d.C [x] := by
  obtain ⟨cc, cda, fd, F, kV, doc, pm, an, ct, efd⟩ := c.ex
  have F := F ar har hself
  rw [hb] at F
  refine ⟨gl, c.cls.oex, by show 1 ≤ 100; omega, _, fd, c.ini, c.fn, Binds.all fun us hl => ?_, fun base => fn_sp (err1 F S c.cls (c.fld x (by rw [hx]; exact List.mem_singleton.mpr rfl)) hd hcd hev) spV_1⟩
  rw [efd]
  exact hbind kV doc pm an _ ct cc us hl
theorem err2V (c : ErSays P K mg d) (gl : mg d.C = some (.ref (He.ga K d.C))) (hx : d.fld = [x, y]) (S : SupScope ["self", x, y] d.scope)
    (hb : d.body = [.Expr (.Call (.Attribute (.Call (.Name "super" p0) [] [] p1) "__init__" p2) [.Name x p5, .Name y p6] [] p3) p4, .Assign [.Tuple [.Attribute (.Name "self" q1) x q2, .Attribute (.Name "self" q3) y q4] k1 q5] (.Tuple [.Name x p7, .Name y p8] k2 p9) q6])
    (har : (d.params.posonlyargs ++ d.params.args).head? = some ar) (hself : ar.arg = "self")
    (hbind : ∀ (kV doc pm : Value) (an : Option Addr) (cdv ct : Value) (cc : Addr) (us : List Value), us.length = 3 → bindArgs (PySem.W.ksFn "__init__" d.q d.params d.body d.scope .none kV doc pm an cdv ct cc) ⟨us, []⟩ = pure (([("self" : Str), x, y] : List Str).zip us))
    (hd : (x == ("__debug__" : Str)) = false := by decide) (hcd : (x == ("__classdict__" : Str)) = false := by decide) (hd2 : (y == ("__debug__" : Str)) = false := by decide) (hcd2 : (y == ("__classdict__" : Str)) = false := by decide)
    (hev : ∀ env : Env, ∃ pl : Sem Bool, eval (.Call (.Attribute (.Call (.Name "super" p0) [] [] p1) "__init__" p2) [.Name x p5, .Name y p6] [] p3) env = (do
      let ov ← attributeBase (.Call (.Name "super" p0) [] [] p1) "__init__" env (eval (.Call (.Name "super" p0) [] [] p1) env)
      standAt p2.atName
      let (f, first) ← holding [ov] (getMethod ov "__init__" pl)
      callWith p3 f first (backTo p3 (starEach [.Name x p5, .Name y p6] env)) []) := by intro _; exact ⟨_, rfl⟩)
    (hs1 : ∀ env, swapsWithSole [.Tuple [.Attribute (.Name "self" q1) x q2, .Attribute (.Name "self" q3) y q4] k1 q5] (.Tuple [.Name x p7, .Name y p8] k2 p9) q6.line env = pure false := by intro _; rfl) : ErrV P w K mg d.C [x, y] := by
  obtain ⟨cc, cda, fd, F, kV, doc, pm, an, ct, efd⟩ := c.ex
  have F := F ar har hself
  rw [hb] at F
  refine ⟨gl, c.cls.oex, by show 2 ≤ 100; omega, _, fd, c.ini, c.fn, Binds.all fun us hl => ?_, fun base => err2 F S c.cls (c.fld x (by rw [hx]; simp)) (c.fld y (by rw [hx]; simp)) hd hcd hd2 hcd2 hev hs1⟩
  rw [efd]
  exact hbind kV doc pm an _ ct cc us hl
theorem err3V (c : ErSays P K mg d) (gl : mg d.C = some (.ref (He.ga K d.C))) (hx : d.fld = [x, y, z]) (S : SupScope ["self", x, y, z] d.scope)
    (hb : d.body = [.Expr (.Call (.Attribute (.Call (.Name "super" p0) [] [] p1) "__init__" p2) [.Name x p5, .Name y p6, .Name z r3] [] p3) p4, .Assign [.Tuple [.Attribute (.Name "self" q1) x q2, .Attribute (.Name "self" q3) y q4, .Attribute (.Name "self" r1) z r2] k1 q5] (.Tuple [.Name x p7, .Name y p8, .Name z r4] k2 p9) q6])
    (har : (d.params.posonlyargs ++ d.params.args).head? = some ar) (hself : ar.arg = "self")
    (hbind : ∀ (kV doc pm : Value) (an : Option Addr) (cdv ct : Value) (cc : Addr) (us : List Value), us.length = 4 → bindArgs (PySem.W.ksFn "__init__" d.q d.params d.body d.scope .none kV doc pm an cdv ct cc) ⟨us, []⟩ = pure (([("self" : Str), x, y, z] : List Str).zip us))
    (hd : (x == ("__debug__" : Str)) = false := by decide) (hcd : (x == ("__classdict__" : Str)) = false := by decide) (hd2 : (y == ("__debug__" : Str)) = false := by decide) (hcd2 : (y == ("__classdict__" : Str)) = false := by decide)
    (hd3 : (z == ("__debug__" : Str)) = false := by decide) (hcd3 : (z == ("__classdict__" : Str)) = false := by decide)
    (hev : ∀ env : Env, ∃ pl : Sem Bool, eval (.Call (.Attribute (.Call (.Name "super" p0) [] [] p1) "__init__" p2) [.Name x p5, .Name y p6, .Name z r3] [] p3) env = (do
      let ov ← attributeBase (.Call (.Name "super" p0) [] [] p1) "__init__" env (eval (.Call (.Name "super" p0) [] [] p1) env)
      standAt p2.atName
      let (f, first) ← holding [ov] (getMethod ov "__init__" pl)
      callWith p3 f first (backTo p3 (starEach [.Name x p5, .Name y p6, .Name z r3] env)) []) := by intro _; exact ⟨_, rfl⟩)
    (hs1 : ∀ env, swapsWithSole [.Tuple [.Attribute (.Name "self" q1) x q2, .Attribute (.Name "self" q3) y q4, .Attribute (.Name "self" r1) z r2] k1 q5] (.Tuple [.Name x p7, .Name y p8, .Name z r4] k2 p9) q6.line env = pure false := by intro _; rfl) : ErrV P w K mg d.C [x, y, z] := by
  obtain ⟨cc, cda, fd, F, kV, doc, pm, an, ct, efd⟩ := c.ex
  have F := F ar har hself
  rw [hb] at F
  refine ⟨gl, c.cls.oex, by show 3 ≤ 100; omega, _, fd, c.ini, c.fn, Binds.all fun us hl => ?_, fun base => err3 F S c.cls (c.fld x (by rw [hx]; simp)) (c.fld y (by rw [hx]; simp)) (c.fld z (by rw [hx]; simp)) hd hcd hd2 hcd2 hd3 hcd3 hev hs1⟩
  rw [efd]
  exact hbind kV doc pm an _ ct cc us hl
end
/-! ### facts by booleans -/
def excAll (K : PySem.W.Frag) (names : List String) : Bool := names.all fun E => excTB K E
def kindB (K : PySem.W.Frag) (names : List String) (cv : Value) (C : String) (anc : Bool) : Bool := names.all fun E => decide (PySem.W.kitOne K (.ref (He.ga K E)) cv = some (E == C || anc))
def errPB (K : PySem.W.Frag) (C : String) : Bool := PySem.W.keepIn K (.ref (He.ga K C)) && PySem.W.excIn K (He.ga K C) [.type "ValueError", .type "Exception", .type "BaseException", .type "object"] "ValueError.__new__"
theorem contains_mem {names : List String} {E : String} (h : names.contains E = true) : E ∈ names := by simpa using h
theorem kindT_ok {K : PySem.W.Frag} {names : List String} {cv : Value} {C : String} {anc : Bool} (h : excAll K names = true) (k : kindB K names cv C anc = true) : KindT K names cv C anc :=
  ⟨fun E hE => ⟨(excTB_ok (List.all_eq_true.mp h E (contains_mem hE))).1, of_decide_eq_true (List.all_eq_true.mp k E (contains_mem hE))⟩⟩
theorem fldV_ok {K : PySem.W.Frag} {names : List String} {C : String} {f : Str} (h : excAll K names = true) (m : names.contains C = true) (n : He.eqO (PySem.W.findIn K (.ref (He.ga K C)) f) (some none) = true) : FldV K C f :=
  ⟨(excTB_ok (List.all_eq_true.mp h C (contains_mem m))).2, He.eqO_ok n⟩
theorem errP_ok {K : PySem.W.Frag} {mg : Str → Option Value} {C : String} (gl : mg C = some (.ref (He.ga K C))) (h : errPB K C = true) : ErrP K mg C :=
  ⟨gl, (He.ba h).1, (He.ba h).2⟩
section
variable {X : Cx} {C : String} {names : List String} {anc : Bool} {e : Expr} {me : ME} {p p2 pos : Pos}
theorem d_isKT (T : KindT X.K names (.type C) C anc) (hg : Gl X "isinstance") (hm : X.mg "isinstance" = none) (hgx : Gl X C) (hmx : X.mg C = none) (he : ED X e me)
    (hvx : bootBuiltins C = some (.type C)) (hn : (C : Str) ≠ "__name__" := by decide) (hdx : ((C : Str) == ("__debug__" : Str)) = false := by decide)
    (hv : bootBuiltins "isinstance" = some (.builtin "isinstance") := by decide +kernel)
    (hst : starEach [e, .Name C p2] X.env = (false, eval e X.env) :: starEach [.Name C p2] X.env := by rfl) (hst2 : starEach [.Name C p2] X.env = (false, eval (.Name C p2) X.env) :: starEach [] X.env := by rfl) :
    ED X (.Call (.Name "isinstance" p) [e, .Name C p2] [] pos) (m1 (isK names C anc) me) := by
  have h := d_callB (X := X) (p := p) (pos := pos) call_isV (rn_isKT T) hg hm hv (a_cons he (a_cons (d_gty hgx hmx hvx hn hdx) a_nil hst2) hst) (he := hst)
  rw [mN_c] at h
  have e2 : (fun (st : State) (z : D) => isKN names C anc (.ty C) st [z, .ty C]) = isK names C anc := by
    funext st z
    simp [isKN]
  rw [e2] at h
  exact h
end
end Ask

/-! ## == of lists and tuples of the very same things -/
namespace Ask
open PySem PySem.Spec PyProof.Rows L2
mutual
/-- the same thing, or lists and tuples of such -/
def sameN : Nat → D → D → Bool
  | n, .own i, b => match b with
    | .own j => decide (i = j)
    | _ => false
  | n, .non, b => match b with
    | .non => true
    | _ => false
  | n, .bl x, b => match b with
    | .bl y => decide (x = y)
    | _ => false
  | n, .int x, b => match b with
    | .int y => decide (x = y)
    | _ => false
  | n, .str x, b => match b with
    | .str y => decide (x = y)
    | _ => false
  | n + 1, .lst xs, b => match b with
    | .lst ys => sameNs n xs ys
    | _ => false
  | n + 1, .tup xs, b => match b with
    | .tup ys => sameNs n xs ys
    | _ => false
  | _, _, _ => false
def sameNs : Nat → List D → List D → Bool
  | _, [], ys => match ys with
    | [] => true
    | _ => false
  | n, x :: xs, ys => match ys with
    | y :: ys => sameN n x y && sameNs n xs ys
    | [] => false
end
section
variable {X : Cx} {W : List Addr} {h H : Hp} {pins : List (Addr × Obj)} {σ : L2.St} {s : Shared}
theorem list_at {a : Addr} {xs : List V} (I : Inv X pins σ H s) (e : H a = some (.lst xs)) : ∃ items : Array Value, s.heap.IsList a items ∧ Vals xs items.toList := by
  obtain ⟨its, rv, ⟨o, n, ho, hc, _, hd⟩, _⟩ := I.list (SqL.of e)
  exact ⟨its.toArray, ⟨o, ho, hc, n, hd⟩, by simpa using rv⟩
theorem tup_at {a : Addr} {xs : List V} (I : Inv X pins σ H s) (e : SqT X.K H a xs) : ∃ items : Array Value, s.heap.IsTuple a items ∧ Vals xs items.toList := by
  obtain ⟨its, rv, hl, _⟩ := I.tuple e
  exact ⟨its.toArray, hl, by simpa using rv⟩
/-- element by element -/
def AllEq (A : Around) (s : Shared) (us vs : List Value) : Prop := us.length = vs.length ∧ ∀ j (h1 : j < us.length) (h2 : j < vs.length), PySem.SeqAt.EqAt A s us[j] vs[j] true
theorem allEq_cons {A : Around} {u v : Value} {us vs : List Value} (h : PySem.SeqAt.EqAt A s u v true) (t : AllEq A s us vs) : AllEq A s (u :: us) (v :: vs) := by
  refine ⟨by rw [List.length_cons, List.length_cons, t.1], fun j h1 h2 => ?_⟩
  cases j with
  | zero => exact h
  | succ j => exact t.2 j (by simpa using h1) (by simpa using h2)
theorem lists_of {A : Around} {a b : Addr} {items items2 : Array Value} (hl : s.heap.IsList a items) (hb : s.heap.IsList b items2) (hu : A.units < cLine) (t : AllEq A.in1 s items.toList items2.toList) : PySem.SeqAt.RcAt A s (.ref a) (.ref b) true := by
  have key := PySem.SeqAt.RcAt.lists (e := fun _ => true) hl hb (by have := t.1; rwa [Array.length_toList, Array.length_toList] at this) hu fun j h1 h2 => by
    have := t.2 j (by rw [Array.length_toList]; exact h1) (by rw [Array.length_toList]; exact h2)
    rwa [Array.getElem_toList, Array.getElem_toList] at this
  rwa [show (List.range items.size).all (fun _ => true) = true from List.all_eq_true.mpr fun _ _ => rfl] at key
theorem tups_of {A : Around} {a b : Addr} {items items2 : Array Value} (hl : s.heap.IsTuple a items) (hb : s.heap.IsTuple b items2) (hu : A.units < cLine) (t : AllEq A.in1 s items.toList items2.toList) : PySem.SeqAt.RcAt A s (.ref a) (.ref b) true := by
  have hsz : items.size = items2.size := by have := t.1; rwa [Array.length_toList, Array.length_toList] at this
  have key := PySem.SeqAt.RcAt.tuples (e := fun _ => true) hl hb hu fun j h1 h2 => by
    have := t.2 j (by rw [Array.length_toList]; exact h1) (by rw [Array.length_toList]; exact h2)
    rwa [Array.getElem_toList, Array.getElem_toList] at this
  have e : ((List.range (min items.size items2.size)).all (fun _ => true) && items.size == items2.size) = true := by
    rw [List.all_eq_true.mpr fun _ _ => rfl, hsz]
    simp
  rwa [e] at key
mutual
theorem eqAt_same (I : Inv X pins σ H s) (hh : ∀ a o, h a = some o → H a = some o) : ∀ (n : Nat) (d e : D) (v v' : V) (u u' : Value) (A : Around), A.units + n < cLine → Rp X.K W h v d → Rp X.K W h v' e → RelV v u → RelV v' u' → sameN n d e = true → PySem.SeqAt.EqAt A s u u' true
  | n, .own i, e, v, v', u, u', A, hu, r1, r2, q1, q2, hs => by
    simp only [sameN] at hs
    split at hs
    · have := of_decide_eq_true hs
      subst this
      cases r1 with
      | own k1 =>
        cases r2 with
        | own k2 =>
          rw [k1] at k2
          cases k2
          cases q1
          cases q2
          exact .same _
    · cases hs
  | n, .non, e, v, v', u, u', A, hu, r1, r2, q1, q2, hs => by
    simp only [sameN] at hs
    split at hs
    · cases r1; cases r2; cases q1; cases q2
      exact .same _
    · cases hs
  | n, .bl x, e, v, v', u, u', A, hu, r1, r2, q1, q2, hs => by
    simp only [sameN] at hs
    split at hs
    · have := of_decide_eq_true hs
      subst this
      cases r1; cases r2; cases q1; cases q2
      exact .same _
    · cases hs
  | n, .int x, e, v, v', u, u', A, hu, r1, r2, q1, q2, hs => by
    simp only [sameN] at hs
    split at hs
    · have := of_decide_eq_true hs
      subst this
      cases r1; cases r2
      obtain ⟨t, rfl⟩ := q1
      obtain ⟨t', rfl⟩ := q2
      have := PySem.SeqAt.EqAt.int_int (A := A) (s := s) x t x t'
      rwa [beq_self_eq_true] at this
    · cases hs
  | n, .str x, e, v, v', u, u', A, hu, r1, r2, q1, q2, hs => by
    simp only [sameN] at hs
    split at hs
    · have := of_decide_eq_true hs
      subst this
      cases r1; cases r2
      obtain ⟨t, rfl⟩ := q1
      obtain ⟨t', rfl⟩ := q2
      have := PySem.SeqAt.EqAt.str_str (A := A) (s := s) x t x t'
      rwa [beq_self_eq_true] at this
    · cases hs
  | n + 1, .lst xs, e, v, v', u, u', A, hu, r1, r2, q1, q2, hs => by
    simp only [sameN] at hs
    split at hs
    · cases r1 with
      | @lst a us ds h1 h2 =>
        cases r2 with
        | @lst b ws es k1 k2 =>
          cases q1; cases q2
          by_cases hab : a = b
          · subst hab; exact .same _
          obtain ⟨i1, l1, w1⟩ := list_at I (hh _ _ h1)
          obtain ⟨i2, l2, w2⟩ := list_at I (hh _ _ k1)
          exact .of_refs hab (lists_of l1 l2 (by omega) (eqAt_sames I hh n _ _ _ _ _ _ A.in1 (by show A.units + 1 + n < cLine; omega) h2 k2 w1 w2 hs))
    · cases hs
  | n + 1, .tup xs, e, v, v', u, u', A, hu, r1, r2, q1, q2, hs => by
    simp only [sameN] at hs
    split at hs
    · cases r1 with
      | @tup a us ds h1 h2 =>
        cases r2 with
        | @tup b ws es k1 k2 =>
          cases q1; cases q2
          by_cases hab : a = b
          · subst hab; exact .same _
          obtain ⟨i1, l1, w1⟩ := tup_at I (Evl.ex_t hh h1)
          obtain ⟨i2, l2, w2⟩ := tup_at I (Evl.ex_t hh k1)
          exact .of_refs hab (tups_of l1 l2 (by omega) (eqAt_sames I hh n _ _ _ _ _ _ A.in1 (by show A.units + 1 + n < cLine; omega) h2 k2 w1 w2 hs))
    · cases hs
  | 0, .lst _, _, _, _, _, _, _, _, _, _, _, _, hs => by simp only [sameN] at hs; cases hs
  | 0, .tup _, _, _, _, _, _, _, _, _, _, _, _, hs => by simp only [sameN] at hs; cases hs
  | _, .dct _ _, _, _, _, _, _, _, _, _, _, _, _, hs => by simp only [sameN] at hs; cases hs
  | _, .ref _, _, _, _, _, _, _, _, _, _, _, _, hs => by simp only [sameN] at hs; cases hs
  | _, .ty _, _, _, _, _, _, _, _, _, _, _, _, hs => by simp only [sameN] at hs; cases hs
  | _, .exn _, _, _, _, _, _, _, _, _, _, _, _, hs => by simp only [sameN] at hs; cases hs
  | _, .scr _, _, _, _, _, _, _, _, _, _, _, _, hs => by simp only [sameN] at hs; cases hs
  | _, .ins _ _ _, _, _, _, _, _, _, _, _, _, _, _, hs => by simp only [sameN] at hs; cases hs
  | _, .exc _ _ _ _, _, _, _, _, _, _, _, _, _, _, _, hs => by simp only [sameN] at hs; cases hs
  | _, .exv _ _ _, _, _, _, _, _, _, _, _, _, _, _, hs => by simp only [sameN] at hs; cases hs
theorem eqAt_sames (I : Inv X pins σ H s) (hh : ∀ a o, h a = some o → H a = some o) : ∀ (n : Nat) (ds es : List D) (vs ws : List V) (us us' : List Value) (A : Around), A.units + n < cLine → RpAll X.K W h vs ds → RpAll X.K W h ws es → Vals vs us → Vals ws us' → sameNs n ds es = true → AllEq A s us us'
  | n, [], es, vs, ws, us, us', A, hu, r1, r2, q1, q2, hs => by
    simp only [sameNs] at hs
    split at hs
    · cases r1; cases r2; cases q1; cases q2
      exact ⟨rfl, fun j h1 => absurd h1 (Nat.not_lt_zero _)⟩
    · cases hs
  | n, d :: ds, es, vs, ws, us, us', A, hu, r1, r2, q1, q2, hs => by
    simp only [sameNs] at hs
    split at hs
    · rw [Bool.and_eq_true] at hs
      cases r1 with
      | cons a1 a2 =>
        cases r2 with
        | cons b1 b2 =>
          cases q1 with
          | cons c1 c2 =>
            cases q2 with
            | cons e1 e2 => exact allEq_cons (eqAt_same I hh n _ _ _ _ _ _ A hu a1 b1 c1 e1 hs.1) (eqAt_sames I hh n _ _ _ _ _ _ A hu a2 b2 c2 e2 hs.2)
    · cases hs
end
end
def topQ : D → Bool
  | .lst _ => true
  | .tup _ => true
  | _ => false
def rSame (K : PySem.W.Frag) : R2 := fun x y H Q => ∃ (d e : D) (W : List Addr) (h : Hp), (∀ a o, h a = some o → H a = some o) ∧ Rp K W h x d ∧ Rp K W h y e ∧ topQ d = true ∧ sameN 8 d e = true ∧ Q (.bl true) H
def eqSm : State → D → D → Option D := fun _ a b => if (topQ a && sameN 8 a b) = true then some (.bl true) else none
section
variable {X : Cx} {K : PySem.W.Frag}
theorem op_same (hu : X.A.units + 64 < cLine) : OpR X (compareOp .Eq) (rSame X.K) := by
  intro pins s σ H x y v u Q I rx ry h
  obtain ⟨d, e, W, h0, hh, r1, r2, ht, hs, q⟩ := h
  have fin : ∀ {a b : Value}, PySem.SeqAt.RcAt X.A s a b true → wpAny (model X.prog X.w) X.A (compareOp .Eq a b) (EP X pins σ Q) X.xe s := fun h => h X.prog X.w X.xe _ ⟨.bl _, H, I, rfl, q⟩
  match d, r1, ht, hs with
  | .lst xs, .lst h1 h2, _, hs =>
    simp only [sameN] at hs
    split at hs
    · cases r2 with
      | lst k1 k2 =>
        cases rx; cases ry
        obtain ⟨i1, l1, w1⟩ := list_at I (hh _ _ h1)
        obtain ⟨i2, l2, w2⟩ := list_at I (hh _ _ k1)
        exact fin (lists_of l1 l2 (by omega) (eqAt_sames I hh 7 _ _ _ _ _ _ X.A.in1 (by show X.A.units + 1 + 7 < cLine; omega) h2 k2 w1 w2 hs))
    · cases hs
  | .tup xs, .tup h1 h2, _, hs =>
    simp only [sameN] at hs
    split at hs
    · cases r2 with
      | tup k1 k2 =>
        cases rx; cases ry
        obtain ⟨i1, l1, w1⟩ := tup_at I (Evl.ex_t hh h1)
        obtain ⟨i2, l2, w2⟩ := tup_at I (Evl.ex_t hh k1)
        exact fin (tups_of l1 l2 (by omega) (eqAt_sames I hh 7 _ _ _ _ _ _ X.A.in1 (by show X.A.units + 1 + 7 < cLine; omega) h2 k2 w1 w2 hs))
    · cases hs
theorem r2_same : R2O K (rSame K) eqSm := by
  intro hid W st H x y a b d go r1 r2 e Q q
  unfold eqSm at e
  split at e
  · rename_i h
    rw [Bool.and_eq_true] at h
    cases e
    exact ⟨a, b, W, _, hd_sub, r1, r2, h.1, h.2, q _ H Gr.refl go (.bl _)⟩
  · cases e
theorem c_eqSm (hu : X.A.units + 64 < cLine) : CmpD X .Eq eqSm := ⟨_, op_same hu, r2_same⟩
end
end Ask
/-! ## repr of data with dicts in it -/
namespace Ask
open PySem PySem.Spec PyProof.Rows L2 PyProof.V
def encK : Key → PyData
  | .inl i => .int i
  | .inr x => .str x
mutual
def D.pd : D → PyData
  | .non => .none
  | .bl b => .bool b
  | .int i => .int i
  | .str x => .str x
  | .lst xs => .list (D.pds xs)
  | .tup xs => .tuple (D.pds xs)
  | .dct ks ds => .dict ((ks.map encK).zip (D.pds ds))
  | .own _ => .none
  | .ref _ => .none
  | .ty _ => .none
  | .exn _ => .none
  | .scr _ => .none
  | .ins _ _ _ => .none
  | .exc _ _ _ _ => .none
  | .exv _ _ _ => .none
def D.pds : List D → List PyData
  | [] => []
  | d :: ds => d.pd :: D.pds ds
end
mutual
def D.fid : D → Bool
  | .non => true
  | .bl _ => true
  | .int _ => true
  | .str _ => true
  | .lst xs => D.fids xs
  | .tup xs => D.fids xs
  | .dct ks ds => decide (ks.length = ds.length) && D.fids ds
  | .own _ => false
  | .ref _ => false
  | .ty _ => false
  | .exn _ => false
  | .scr _ => false
  | .ins _ _ _ => false
  | .exc _ _ _ _ => false
  | .exv _ _ _ => false
def D.fids : List D → Bool
  | [] => true
  | d :: ds => d.fid && D.fids ds
end
theorem kv_cons {k : Key} {v : V} {kvs : List (Key × V)} {vs : List (Key × Value)} (h : KV ((k, v) :: kvs) vs) : ∃ u r, vs = (k, u) :: r ∧ RelV v u ∧ KV kvs r := by
  cases h with
  | @cons _ b _ t h1 h2 =>
    obtain ⟨k', u⟩ := b
    obtain ⟨e1, e2⟩ := h1
    cases (show k = k' from e1)
    exact ⟨u, t, rfl, e2, h2⟩
mutual
theorem rp_readsD {X : Cx} {W : List Addr} {h H : Hp} {pins : List (Addr × Obj)} {σ : L2.St} {s : Shared} (I : Inv X pins σ H s) (hs : SysB s.heap) (hh : ∀ a o, h a = some o → H a = some o) : ∀ (d : D) (v : V) (u : Value), d.fid = true → Rp X.K W h v d → RelV v u → ∃ as, Reads s.heap u d.pd as ∧ sysModules ∉ as
  | .non, _, _, _, .non, r => by cases r; simp only [D.pd]; exact ⟨_, Reads.none, List.not_mem_nil⟩
  | .bl _, _, _, _, .bl b, r => by cases r; simp only [D.pd]; exact ⟨_, Reads.bool b, List.not_mem_nil⟩
  | .int _, _, _, _, .int b, r => by obtain ⟨t, rfl⟩ := r; simp only [D.pd]; exact ⟨_, Reads.int b t, List.not_mem_nil⟩
  | .str _, _, _, _, .str b, r => by obtain ⟨t, rfl⟩ := r; simp only [D.pd]; exact ⟨_, Reads.str b t, List.not_mem_nil⟩
  | .lst ds, _, _, p, .lst h1 h2, r => by
    cases r
    simp only [D.fid] at p
    simp only [D.pd]
    obtain ⟨its, rv, ⟨o, n, ho, hc, _, hd⟩, _⟩ := I.list (SqL.of (hh _ _ h1))
    obtain ⟨as, hr, hn⟩ := rps_readsD I hs hh ds _ its p h2 rv
    refine ⟨_, Reads.list ho hc hd hr, fun z => ?_⟩
    rcases List.mem_cons.mp z with z | z
    · obtain ⟨o', es, ep, h3, h4⟩ := hs
      rw [z, ho] at h3
      cases h3
      rw [hd] at h4
      cases h4
    · exact hn z
  | .tup ds, _, _, p, .tup h1 h2, r => by
    cases r
    simp only [D.fid] at p
    simp only [D.pd]
    obtain ⟨its, rv, ⟨o, ho, hc, n, hd⟩, _⟩ := I.tuple (Evl.ex_t hh h1)
    obtain ⟨as, hr, hn⟩ := rps_readsD I hs hh ds _ its p h2 rv
    exact ⟨_, Reads.tuple ho hc hd hr, hn⟩
  | .dct ks ds, v, u, p, hp, r => by
    simp only [D.fid, Bool.and_eq_true] at p
    simp only [D.pd]
    obtain ⟨a, kvs, rfl, hks, h1, h2⟩ : ∃ (a : Addr) (kvs : List (L2.Key × V)), v = .ref a ∧ ks = kvs.map (·.1) ∧ h a = some (.dK kvs) ∧ RpAll X.K W h (kvs.map (·.2)) ds := by
      cases hp with
      | dct h1 h2 => exact ⟨_, _, rfl, rfl, h1, h2⟩
    cases r
    subst hks
    obtain ⟨_, hsys, vs, kv, hdo⟩ := (show ObjOk X.prog X.w H s.heap a (.dK kvs) from I.hok a _ (hh _ _ h1))
    obtain ⟨bs, hpr, hn⟩ := rps_pairsD I hs hh ds kvs vs p.2 h2 kv
    refine ⟨_, reads_dictOf (enc := encK) (fun k key hk => ?_) hdo hpr, fun z => ?_⟩
    · rcases keyIs_shape hk with ⟨i, t, rfl, rfl⟩ | ⟨x, t, rfl, rfl⟩
      · exact Reads.int i t
      · exact Reads.str x t
    · rcases List.mem_cons.mp z with z | z
      · rw [← z] at hsys
        simp at hsys
      · exact hn z
theorem rps_readsD {X : Cx} {W : List Addr} {h H : Hp} {pins : List (Addr × Obj)} {σ : L2.St} {s : Shared} (I : Inv X pins σ H s) (hs : SysB s.heap) (hh : ∀ a o, h a = some o → H a = some o) : ∀ (ds : List D) (vs : List V) (us : List Value), D.fids ds = true → RpAll X.K W h vs ds → Vals vs us → ∃ as, ReadsAll s.heap us (D.pds ds) as ∧ sysModules ∉ as
  | [], _, _, _, .nil, r => by cases r; simp only [D.pds]; exact ⟨_, ReadsAll.nil, List.not_mem_nil⟩
  | d :: ds, _, _, p, .cons h1 h2, r => by
    cases r with
    | cons r1 r2 =>
      simp only [D.fids, Bool.and_eq_true] at p
      obtain ⟨as, q1, n1⟩ := rp_readsD I hs hh d _ _ p.1 h1 r1
      obtain ⟨bs, q2, n2⟩ := rps_readsD I hs hh ds _ _ p.2 h2 r2
      simp only [D.pds]
      exact ⟨_, ReadsAll.cons q1 q2, fun z => (List.mem_append.mp z).elim n1 n2⟩
theorem rps_pairsD {X : Cx} {W : List Addr} {h H : Hp} {pins : List (Addr × Obj)} {σ : L2.St} {s : Shared} (I : Inv X pins σ H s) (hs : SysB s.heap) (hh : ∀ a o, h a = some o → H a = some o) : ∀ (ds : List D) (kvs : List (Key × V)) (vs : List (Key × Value)), D.fids ds = true → RpAll X.K W h (kvs.map (·.2)) ds → KV kvs vs → ∃ bs, PairsRead s.heap encK vs (((kvs.map (·.1)).map encK).zip (D.pds ds)) bs ∧ sysModules ∉ bs
  | [], [], vs, _, _, kv => by
    cases kv
    simp only [D.pds]
    exact ⟨_, PairsRead.nil, List.not_mem_nil⟩
  | d :: ds, (k, v) :: kvs, vs, p, .cons h1 h2, kv => by
    obtain ⟨u, r, rfl, r1, r2⟩ := kv_cons kv
    simp only [D.fids, Bool.and_eq_true] at p
    obtain ⟨as, q1, n1⟩ := rp_readsD I hs hh d _ _ p.1 h1 r1
    obtain ⟨bs, q2, n2⟩ := rps_pairsD I hs hh ds kvs r p.2 h2 r2
    simp only [D.pds, List.map_cons, List.zip_cons_cons]
    exact ⟨_, PairsRead.cons q1 q2, fun z => (List.mem_append.mp z).elim n1 n2⟩
  | [], _ :: _, _, _, h, _ => nomatch h
  | _ :: _, [], _, _, h, _ => nomatch h
end
/-- data that can be shown -/
def showB (d : D) : Bool := d.fid && (d.pd.showable && (d.pd.leavesShort 600 && (decide (d.pd.depth ≤ 60) && decide (d.pd.bulk ≤ 20000))))
def rReprP (K : PySem.W.Frag) : List V → Hp → VK → Prop := fun xs H Q => ∃ (v : V) (W : List Addr) (h : Hp) (d : D), xs = [v] ∧ (∀ a o, h a = some o → H a = some o) ∧ showB d = true ∧ Rp K W h v d ∧ Q (.str d.pd.shown) H
theorem call_reprP {X : Cx} (gd : X.A.guards = some []) (hu : X.A.units + 66 < cLine) (hbs : SysB X.base) : CallR X (.builtin "repr") (rReprP X.K) := by
  intro pins s σ H xs us Q I r hq
  obtain ⟨v, W, h, d, rfl, hh, hf, rp, q⟩ := hq
  obtain ⟨u, rfl, ru⟩ := vals1 r
  unfold showB at hf
  simp only [Bool.and_eq_true, decide_eq_true_eq] at hf
  obtain ⟨hf, hs, hb, hd, hz⟩ := hf
  have hsys : SysB s.heap := by
    obtain ⟨o, es, ep, h1, h2⟩ := hbs
    exact ⟨o, es, ep, I.bk _ _ h1, h2⟩
  obtain ⟨as, rd, hn⟩ := rp_readsD I hsys hh d v u hf rp ru
  have hl : d.pd.shown.length ≤ sizeLine := by
    have h1 := PyData.shown_le_bulk 600 (by decide) d.pd hb
    rw [sizeLine_eq]
    omega
  cases rp with
  | non => cases ru; exact PySem.P.repr_of_none ⟨.str _, H, I.tok _, ⟨_, rfl⟩, by simpa only [D.pd, PyData.shown] using q⟩
  | bl b => cases ru; exact PySem.P.repr_of_bool ⟨.str _, H, I.tok _, ⟨_, rfl⟩, by simpa only [D.pd, PyData.shown] using q⟩
  | int i =>
    obtain ⟨t, rfl⟩ := ru
    exact PySem.P.repr_of_int (by simpa [D.pd, PyData.showable] using hs) ⟨.str _, H, I.tok _, ⟨_, rfl⟩, by simpa only [D.pd, PyData.shown] using q⟩
  | str x =>
    obtain ⟨t, rfl⟩ := ru
    exact PySem.P.repr_of_str ⟨.str _, H, I.tok _, ⟨_, rfl⟩, by simpa only [D.pd, PyData.shown] using q⟩ (by simpa only [D.pd, PyData.shown] using hl)
  | lst h1 h2 =>
    cases ru
    exact repr_of_reads' rd hs (fun _ => hn) gd (by omega) (fun _ _ e => e) (fun h' u tk hk => ⟨.str _, H, kept_inv I hk, ⟨_, rfl⟩, q⟩) hl
  | tup h1 h2 =>
    cases ru
    exact repr_of_reads' rd hs (fun _ => hn) gd (by omega) (fun _ _ e => e) (fun h' u tk hk => ⟨.str _, H, kept_inv I hk, ⟨_, rfl⟩, q⟩) hl
  | dct h1 h2 =>
    cases ru
    exact repr_of_reads' rd hs (fun _ => hn) gd (by omega) (fun _ _ e => e) (fun h' u tk hk => ⟨.str _, H, kept_inv I hk, ⟨_, rfl⟩, q⟩) hl
  | own _ => simp only [D.fid] at hf; cases hf
  | ref _ => simp only [D.fid] at hf; cases hf
  | ty _ => simp only [D.fid] at hf; cases hf
  | exn _ => simp only [D.fid] at hf; cases hf
  | scr _ => simp only [D.fid] at hf; cases hf
  | ins _ _ _ => simp only [D.fid] at hf; cases hf
  | exc _ _ => simp only [D.fid] at hf; cases hf
  | exv _ _ _ => simp only [D.fid] at hf; cases hf
  | exv0 _ => simp only [D.fid] at hf; cases hf
  | exc0 => simp only [D.fid] at hf; cases hf
def reprP : State → List D → Option D := fun _ as => match as with
  | [a] => if showB a = true then some (.str a.pd.shown) else none
  | _ => none
theorem rn_reprP {K : PySem.W.Frag} : RNO K (rReprP K) reprP := by
  intro hid W st H xs as d go r e Q q
  match as, r, e with
  | [a], .cons h1 .nil, e =>
    have e : (if showB a = true then some (D.str a.pd.shown) else none) = some d := e
    split at e
    · rename_i h
      cases e
      exact ⟨_, W, _, a, rfl, hd_sub, h, h1, q _ H Gr.refl go (.str _)⟩
    · cases e
end Ask

namespace Ask
open PySem PySem.Spec PyProof.Rows L2
abbrev knd : List String := ["Wrong", "BadStatement", "NoWriter", "NoPlace", "TooMany", "NoStep", "Fault", "Freed", "Gone", "Nothing", "NoWalker", "Broken", "BadTarget", "Unknown", "NotBare", "Hopeless", "NotRight", "NoChain", "Unlike", "NotPlain", "NoRead", "NoSwitch", "TooFew", "NoDeed", "Full", "NoEntry", "NoText", "NoCommand", "AskError"]
def topS (i : Nat) : Stmt := PySem.Challenge.pw_askless_k11_errors_kept.main.body.getD i (.Pass ⟨0, 0, 0, 0⟩)
section
variable {P : Program} {w : World} {K : PySem.W.Frag} {mg : Str → Option Value}
abbrev s_l_bag : Stmt := topS 31
theorem sc_l_bag : FnScope ["_law_script", "_law_cell"] ["_law_script"] (defScope s_l_bag) := ⟨rfl, rfl, rfl, by decide +kernel, rfl, by decide +kernel, by decide +kernel⟩
theorem ok_l_bag (h : At K mg "_law_bag" s_l_bag) (n_abs : mg "abs" = none) : ReadyB P w K mg 1 "_law_bag" ["_law_script"] 1 f_l_bag :=
  readyB (s0 := s_l_bag) (N := ["_law_script", "_law_cell"]) (ps := ["_law_script"]) (m := b_l_bag) h sc_l_bag (fun _ _ _ _ _ _ us hl => match us, hl with | [_], _ => rfl) fun base hbs f cdv A outer s H E hr gd =>
    (ss_one (s_ret (d_own (a_cons d_int (a_cons d_int (a_cons d_int (a_cons (d_lc rfl sc_l_bag.nd (i_list (d_slice (d_var 0) o_none (o_some d_int))) (blkOk_by (own := [("_law_cell", 1)]) (N := ["_law_script", "_law_cell"]) (sc := defScope s_l_bag) (by decide +kernel)) (fun _ => (g_name sc_l_bag.nd rfl (by first | exact Or.inl rfl | exact Or.inr rfl))) (fun _ => ts_nil) (fun _ => (d_callB call_abs rn_abs (by rfl) n_abs (by decide +kernel) (a_cons (d_var 1) a_nil))) (by decide)) a_nil)))))))
abbrev s_l_take : Stmt := topS 32
theorem sc_l_take : FnScope ["_law_bag_here", "_law_many", "_law_cell", "_law_more", "_law_drawn"] ["_law_bag_here", "_law_many"] (defScope s_l_take) := ⟨rfl, rfl, rfl, by decide +kernel, rfl, by decide +kernel, by decide +kernel⟩
theorem ok_l_take (h : At K mg "_law_take" s_l_take) (n_int : mg "int" = none) (n_len : mg "len" = none) : ReadyB P w K mg 1 "_law_take" ["_law_bag_here", "_law_many"] 2 f_l_take :=
  readyB (s0 := s_l_take) (N := ["_law_bag_here", "_law_many", "_law_cell", "_law_more", "_law_drawn"]) (ps := ["_law_bag_here", "_law_many"]) (m := b_l_take) h sc_l_take (fun _ _ _ _ _ _ us hl => match us, hl with | [_, _], _ => rfl) fun base hbs f cdv A outer s H E hr gd =>
    (ss_cons (s_if (tc (c_eq hr.units) (d_item (d_var 0) d_int) d_int) (ss_cons (s_set (i := 2) sc_l_take.nd rfl (Or.inl rfl) d_int)
      (ss_cons (s_if (tc c_lt (d_item (d_var 0) d_int) (d_callB call_len rn_len (by rfl) n_len (by decide +kernel) (a_cons (d_item (d_var 0) d_int) a_nil))) (ss_one (s_set (i := 2) sc_l_take.nd rfl (Or.inl rfl) (d_item (d_item (d_var 0) d_int) (d_item (d_var 0) d_int)))) ss_nil)
      (ss_cons (s_augI (d_var 0) d_int d_int)
      (ss_cons (s_if (tc c_ge (d_var 2) d_int) (ss_one (s_setI (d_var 2) (d_var 0) d_int)) ss_nil)
      (ss_cons (s_set (i := 3) sc_l_take.nd rfl (Or.inl rfl) (d_add (d_mod (d_callTy call_int1 rn_int (by rfl) n_int (by decide +kernel) (a_cons (d_var 2) a_nil)) d_int) (d_mul d_int (d_item (d_var 0) d_int))))
      (ss_one (s_setI (d_mod (d_callTy call_int1 rn_int (by rfl) n_int (by decide +kernel) (a_cons (d_add (d_mul (d_item (d_var 0) d_int) d_int) (d_var 3)) a_nil)) d_int) (d_var 0) d_int))))))) ss_nil)
      (ss_cons (s_if (tc c_gt (d_item (d_var 0) d_int) d_int) (ss_cons (s_set (i := 4) sc_l_take.nd rfl (Or.inl rfl) (d_mod (d_callTy call_int1 rn_int (by rfl) n_int (by decide +kernel) (a_cons (d_item (d_var 0) d_int) a_nil)) (d_var 1)))
      (ss_cons (s_setI (d_div (d_item (d_var 0) d_int) (d_var 1)) (d_var 0) d_int)
      (ss_one (s_ret (d_var 4))))) ss_nil)
      (ss_cons (s_setI (d_mod (d_callTy call_int1 rn_int (by rfl) n_int (by decide +kernel) (a_cons (d_add (d_mul (d_item (d_var 0) d_int) d_int) d_int) a_nil)) d_int) (d_var 0) d_int)
      (ss_one (s_ret (d_mod (d_callTy call_int1 rn_int (by rfl) n_int (by decide +kernel) (a_cons (d_div (d_item (d_var 0) d_int) d_int) a_nil)) (d_var 1)))))))
abbrev s_l_alikeE : Stmt := topS 33
theorem sc_l_alikeE : FnScope ["_law_found", "_law_right"] ["_law_found", "_law_right"] (defScope s_l_alikeE) := ⟨rfl, rfl, rfl, by decide +kernel, rfl, by decide +kernel, by decide +kernel⟩
def b_l_alikeE : MS := (sRet (mAnd (m2 eqSm (mVar 0) (mVar 1)) (m2 eqA (mFzD (mN reprP (aCons (mVar 0) aNil))) (mFzD (mN reprP (aCons (mVar 1) aNil))))))
def f_l_alikeE : List D → State → Option (D × State) := fnM 2 b_l_alikeE
theorem ok_l_alikeE (h : At K mg "_law_alike" s_l_alikeE) (n_repr : mg "repr" = none) : ReadyB P w K mg 1 "_law_alike" ["_law_found", "_law_right"] 2 f_l_alikeE :=
  readyB (s0 := s_l_alikeE) (N := ["_law_found", "_law_right"]) (ps := ["_law_found", "_law_right"]) (m := b_l_alikeE) h sc_l_alikeE (fun _ _ _ _ _ _ us hl => match us, hl with | [_, _], _ => rfl) fun base hbs f cdv A outer s H E hr gd =>
    (ss_one (s_ret (d_and (dc (c_eqSm (u64 (u66 hr))) (d_var 0) (d_var 1)) (d_one (dc (c_eq hr.units) (d_fzD (d_callB (call_reprP gd (u66 hr) hbs) rn_reprP (by rfl) n_repr (by decide +kernel) (a_cons (d_var 0) a_nil))) (d_fzD (d_callB (call_reprP gd (u66 hr) hbs) rn_reprP (by rfl) n_repr (by decide +kernel) (a_cons (d_var 1) a_nil))))))))
abbrev s_l_thing : Stmt := topS 34
theorem sc_l_thing : FnScope ["_law_bag_here", "_law_some"] ["_law_bag_here"] (defScope s_l_thing) := ⟨rfl, rfl, rfl, by decide +kernel, rfl, by decide +kernel, by decide +kernel⟩
def b_l_thing : MS := (sSeq (sSet 1 (mLst (aCons (m2 subI (mCallN 2 f_l_take (aCons (mVar 0) (aCons (mC (.int 1000)) aNil))) (mC (.int 500))) (aCons (m2 powI (mC (.int 10)) (mC (.int 39))) (aCons (mC (.str "put")) (aCons (mC (.str "")) (aCons (mC (.bl true)) (aCons (mC .non) (aCons (mTup (aCons (mC (.int 1)) (aCons (mTup (aCons (mC (.int 2)) aNil)) aNil))) (aCons (mOwn (aCons (mC (.int 3)) (aCons (mLst (aCons (mC (.int 4)) aNil)) aNil))) (aCons (mDctO ["a"] (aCons (mC (.int 1)) aNil)) (aCons (mOwn aNil) (aCons (mOwn (aCons (mC (.str "old")) aNil)) aNil)))))))))))))
  (sRet (m2 ixD (mVar 1) (mCallN 2 f_l_take (aCons (mVar 0) (aCons (mC (.int 11)) aNil))))))
def f_l_thing : List D → State → Option (D × State) := fnM 2 b_l_thing
theorem ok_l_thing (h : At K mg "_law_thing" s_l_thing) (R_l_take : ReadyB P w K mg 1 "_law_take" ["_law_bag_here", "_law_many"] 2 f_l_take) : ReadyB P w K mg 2 "_law_thing" ["_law_bag_here"] 1 f_l_thing :=
  readyB (s0 := s_l_thing) (N := ["_law_bag_here", "_law_some"]) (ps := ["_law_bag_here"]) (m := b_l_thing) h sc_l_thing (fun _ _ _ _ _ _ us hl => match us, hl with | [_], _ => rfl) fun base hbs f cdv A outer s H E hr gd =>
    (ss_cons (s_set (i := 1) sc_l_thing.nd rfl (Or.inl rfl) (d_lst (a_cons (d_sub (d_fnB R_l_take hbs (hr.mono (by decide)) gd (by rfl) (a_cons (d_var 0) (a_cons d_int a_nil))) d_int) (a_cons (d_pow d_int d_int) (a_cons d_str (a_cons d_str (a_cons d_bl (a_cons d_non (a_cons (d_tup (a_cons d_int (a_cons (d_tup (a_cons d_int a_nil)) a_nil))) (a_cons (d_own (a_cons d_int (a_cons (d_lst (a_cons d_int a_nil)) a_nil))) (a_cons (d_dctO (prs_cons d_int prs_nil)) (a_cons (d_own a_nil) (a_cons (d_own (a_cons d_str a_nil)) a_nil)))))))))))))
      (ss_one (s_ret (d_item (d_var 1) (d_fnB R_l_take hbs (hr.mono (by decide)) gd (by rfl) (a_cons (d_var 0) (a_cons d_int a_nil)))))))
end
section
variable {P : Program} {w : World} {K : PySem.W.Frag} {mg : Str → Option Value}
abbrev s_l_errors : Stmt := topS 35
theorem sc_l_errors : FnScope ["_law_one", "_law_two", "_law_three", "_law_found"] ["_law_one", "_law_two", "_law_three"] (defScope s_l_errors) := ⟨rfl, rfl, rfl, by decide +kernel, rfl, by decide +kernel, by decide +kernel⟩
def b_l_errors : MS := (sSeq (sSet 3 (mLst (aCons (mErr "Wrong" ["place"] (aCons (mVar 0) aNil)) (aCons (mErr "BadStatement" ["writer", "address"] (aCons (mVar 0) (aCons (mVar 1) aNil))) (aCons (mErr "NoWriter" ["writer"] (aCons (mVar 0) aNil)) (aCons (mErr "NoPlace" ["place"] (aCons (mVar 0) aNil)) (aCons (mErr "TooMany" ["limit"] (aCons (mVar 0) aNil)) (aCons (mC (.exv "NoStep" [] [])) aNil))))))))
  (sSeq (sSet 3 (m2 addD (mVar 3) (mLst (aCons (mErr "Fault" ["writer", "address", "name"] (aCons (mVar 0) (aCons (mVar 1) (aCons (mVar 2) aNil)))) (aCons (mErr "Freed" ["cell"] (aCons (mVar 0) aNil)) (aCons (mErr "Gone" ["walker"] (aCons (mVar 0) aNil)) (aCons (mC (.exv "Nothing" [] [])) (aCons (mErr "NoWalker" ["walker"] (aCons (mVar 0) aNil)) (aCons (mErr "Broken" ["at"] (aCons (mVar 0) aNil)) aNil)))))))))
  (sSeq (sSet 3 (m2 addD (mVar 3) (mLst (aCons (mErr "BadTarget" ["place"] (aCons (mVar 0) aNil)) (aCons (mErr "Unknown" ["name"] (aCons (mVar 0) aNil)) (aCons (mErr "NotBare" ["at"] (aCons (mVar 0) aNil)) (aCons (mErr "Hopeless" ["at"] (aCons (mVar 0) aNil)) (aCons (mC (.exv "NotRight" [] [])) (aCons (mErr "NoChain" ["root", "field"] (aCons (mVar 0) (aCons (mVar 1) aNil))) aNil)))))))))
  (sSeq (sSet 3 (m2 addD (mVar 3) (mLst (aCons (mC (.exv "Unlike" [] [])) (aCons (mErr "NotPlain" ["which"] (aCons (mVar 0) aNil)) (aCons (mErr "NoRead" ["at"] (aCons (mVar 0) aNil)) (aCons (mErr "NoSwitch" ["place"] (aCons (mVar 0) aNil)) (aCons (mErr "TooFew" ["many"] (aCons (mVar 0) aNil)) (aCons (mC (.exv "NoDeed" [] [])) (aCons (mErr "Full" ["limit"] (aCons (mVar 0) aNil)) aNil))))))))))
  (sRet (m2 addD (mVar 3) (mLst (aCons (mErr "NoEntry" ["many"] (aCons (mVar 0) aNil)) (aCons (mC (.exv "NoText" [] [])) (aCons (mC (.exv "NoCommand" [] [])) aNil))))))))))
def f_l_errors : List D → State → Option (D × State) := fnM 4 b_l_errors
theorem ok_l_errors (h : At K mg "_law_errors" s_l_errors) (E_NoCommand : ErrV P w K mg "NoCommand" []) (E_NoText : ErrV P w K mg "NoText" []) (E_NoEntry : ErrV P w K mg "NoEntry" ["many"]) (E_Full : ErrV P w K mg "Full" ["limit"]) (E_NoDeed : ErrV P w K mg "NoDeed" []) (E_TooFew : ErrV P w K mg "TooFew" ["many"]) (E_NoSwitch : ErrV P w K mg "NoSwitch" ["place"]) (E_NoRead : ErrV P w K mg "NoRead" ["at"]) (E_NotPlain : ErrV P w K mg "NotPlain" ["which"]) (E_Unlike : ErrV P w K mg "Unlike" []) (E_NoChain : ErrV P w K mg "NoChain" ["root", "field"]) (E_NotRight : ErrV P w K mg "NotRight" []) (E_Hopeless : ErrV P w K mg "Hopeless" ["at"]) (E_NotBare : ErrV P w K mg "NotBare" ["at"]) (E_Unknown : ErrV P w K mg "Unknown" ["name"]) (E_BadTarget : ErrV P w K mg "BadTarget" ["place"]) (E_Broken : ErrV P w K mg "Broken" ["at"]) (E_NoWalker : ErrV P w K mg "NoWalker" ["walker"]) (E_Nothing : ErrV P w K mg "Nothing" []) (E_Gone : ErrV P w K mg "Gone" ["walker"]) (E_Freed : ErrV P w K mg "Freed" ["cell"]) (E_Fault : ErrV P w K mg "Fault" ["writer", "address", "name"]) (E_NoStep : ErrV P w K mg "NoStep" []) (E_TooMany : ErrV P w K mg "TooMany" ["limit"]) (E_NoPlace : ErrV P w K mg "NoPlace" ["place"]) (E_NoWriter : ErrV P w K mg "NoWriter" ["writer"]) (E_BadStatement : ErrV P w K mg "BadStatement" ["writer", "address"]) (E_Wrong : ErrV P w K mg "Wrong" ["place"]) : ReadyB P w K mg 4 "_law_errors" ["_law_one", "_law_two", "_law_three"] 3 f_l_errors :=
  readyB (s0 := s_l_errors) (N := ["_law_one", "_law_two", "_law_three", "_law_found"]) (ps := ["_law_one", "_law_two", "_law_three"]) (m := b_l_errors) h sc_l_errors (fun _ _ _ _ _ _ us hl => match us, hl with | [_, _, _], _ => rfl) fun base hbs f cdv A outer s H E hr gd =>
    (ss_cons (s_set (i := 3) sc_l_errors.nd rfl (Or.inl rfl) (d_lst (a_cons (d_err E_Wrong (hr.mono (by decide)) (by rfl) (a_cons (d_var 0) a_nil)) (a_cons (d_err E_BadStatement (hr.mono (by decide)) (by rfl) (a_cons (d_var 0) (a_cons (d_var 1) a_nil))) (a_cons (d_err E_NoWriter (hr.mono (by decide)) (by rfl) (a_cons (d_var 0) a_nil)) (a_cons (d_err E_NoPlace (hr.mono (by decide)) (by rfl) (a_cons (d_var 0) a_nil)) (a_cons (d_err E_TooMany (hr.mono (by decide)) (by rfl) (a_cons (d_var 0) a_nil)) (a_cons (d_err0 E_NoStep (hr.mono (by decide)) (by rfl)) a_nil))))))))
      (ss_cons (s_set (i := 3) sc_l_errors.nd rfl (Or.inl rfl) (d_add (d_var 3) (d_lst (a_cons (d_err E_Fault (hr.mono (by decide)) (by rfl) (a_cons (d_var 0) (a_cons (d_var 1) (a_cons (d_var 2) a_nil)))) (a_cons (d_err E_Freed (hr.mono (by decide)) (by rfl) (a_cons (d_var 0) a_nil)) (a_cons (d_err E_Gone (hr.mono (by decide)) (by rfl) (a_cons (d_var 0) a_nil)) (a_cons (d_err0 E_Nothing (hr.mono (by decide)) (by rfl)) (a_cons (d_err E_NoWalker (hr.mono (by decide)) (by rfl) (a_cons (d_var 0) a_nil)) (a_cons (d_err E_Broken (hr.mono (by decide)) (by rfl) (a_cons (d_var 0) a_nil)) a_nil)))))))))
      (ss_cons (s_set (i := 3) sc_l_errors.nd rfl (Or.inl rfl) (d_add (d_var 3) (d_lst (a_cons (d_err E_BadTarget (hr.mono (by decide)) (by rfl) (a_cons (d_var 0) a_nil)) (a_cons (d_err E_Unknown (hr.mono (by decide)) (by rfl) (a_cons (d_var 0) a_nil)) (a_cons (d_err E_NotBare (hr.mono (by decide)) (by rfl) (a_cons (d_var 0) a_nil)) (a_cons (d_err E_Hopeless (hr.mono (by decide)) (by rfl) (a_cons (d_var 0) a_nil)) (a_cons (d_err0 E_NotRight (hr.mono (by decide)) (by rfl)) (a_cons (d_err E_NoChain (hr.mono (by decide)) (by rfl) (a_cons (d_var 0) (a_cons (d_var 1) a_nil))) a_nil)))))))))
      (ss_cons (s_set (i := 3) sc_l_errors.nd rfl (Or.inl rfl) (d_add (d_var 3) (d_lst (a_cons (d_err0 E_Unlike (hr.mono (by decide)) (by rfl)) (a_cons (d_err E_NotPlain (hr.mono (by decide)) (by rfl) (a_cons (d_var 0) a_nil)) (a_cons (d_err E_NoRead (hr.mono (by decide)) (by rfl) (a_cons (d_var 0) a_nil)) (a_cons (d_err E_NoSwitch (hr.mono (by decide)) (by rfl) (a_cons (d_var 0) a_nil)) (a_cons (d_err E_TooFew (hr.mono (by decide)) (by rfl) (a_cons (d_var 0) a_nil)) (a_cons (d_err0 E_NoDeed (hr.mono (by decide)) (by rfl)) (a_cons (d_err E_Full (hr.mono (by decide)) (by rfl) (a_cons (d_var 0) a_nil)) a_nil))))))))))
      (ss_one (s_ret (d_add (d_var 3) (d_lst (a_cons (d_err E_NoEntry (hr.mono (by decide)) (by rfl) (a_cons (d_var 0) a_nil)) (a_cons (d_err0 E_NoText (hr.mono (by decide)) (by rfl)) (a_cons (d_err0 E_NoCommand (hr.mono (by decide)) (by rfl)) a_nil)))))))))))
abbrev s_l_kinds : Stmt := topS 36
theorem sc_l_kinds : FnScope ["_law_e", "_law_found"] ["_law_e"] (defScope s_l_kinds) := ⟨rfl, rfl, rfl, by decide +kernel, rfl, by decide +kernel, by decide +kernel⟩
def b_l_kinds : MS := (sSeq (sSet 1 (mLst aNil))
  (sSeq (sSet 1 (m2 addD (mVar 1) (mLst (aCons (m1 (isK knd "Wrong" false) (mVar 0)) (aCons (m1 (isK knd "BadStatement" false) (mVar 0)) (aCons (m1 (isK knd "NoWriter" false) (mVar 0)) (aCons (m1 (isK knd "NoPlace" false) (mVar 0)) aNil)))))))
  (sSeq (sSet 1 (m2 addD (mVar 1) (mLst (aCons (m1 (isK knd "TooMany" false) (mVar 0)) (aCons (m1 (isK knd "NoStep" false) (mVar 0)) (aCons (m1 (isK knd "Fault" false) (mVar 0)) (aCons (m1 (isK knd "Freed" false) (mVar 0)) aNil)))))))
  (sSeq (sSet 1 (m2 addD (mVar 1) (mLst (aCons (m1 (isK knd "Gone" false) (mVar 0)) (aCons (m1 (isK knd "Nothing" false) (mVar 0)) (aCons (m1 (isK knd "NoWalker" false) (mVar 0)) (aCons (m1 (isK knd "Broken" false) (mVar 0)) aNil)))))))
  (sSeq (sSet 1 (m2 addD (mVar 1) (mLst (aCons (m1 (isK knd "BadTarget" false) (mVar 0)) (aCons (m1 (isK knd "Unknown" false) (mVar 0)) (aCons (m1 (isK knd "NotBare" false) (mVar 0)) (aCons (m1 (isK knd "Hopeless" false) (mVar 0)) aNil)))))))
  (sSeq (sSet 1 (m2 addD (mVar 1) (mLst (aCons (m1 (isK knd "NotRight" false) (mVar 0)) (aCons (m1 (isK knd "NoChain" false) (mVar 0)) (aCons (m1 (isK knd "Unlike" false) (mVar 0)) (aCons (m1 (isK knd "NotPlain" false) (mVar 0)) aNil)))))))
  (sSeq (sSet 1 (m2 addD (mVar 1) (mLst (aCons (m1 (isK knd "NoRead" false) (mVar 0)) (aCons (m1 (isK knd "NoSwitch" false) (mVar 0)) (aCons (m1 (isK knd "TooFew" false) (mVar 0)) (aCons (m1 (isK knd "NoDeed" false) (mVar 0)) aNil)))))))
  (sSeq (sSet 1 (m2 addD (mVar 1) (mLst (aCons (m1 (isK knd "Full" false) (mVar 0)) (aCons (m1 (isK knd "NoEntry" false) (mVar 0)) (aCons (m1 (isK knd "NoText" false) (mVar 0)) (aCons (m1 (isK knd "NoCommand" false) (mVar 0)) aNil)))))))
  (sRet (mVar 1))))))))))
def f_l_kinds : List D → State → Option (D × State) := fnM 2 b_l_kinds
theorem ok_l_kinds (h : At K mg "_law_kinds" s_l_kinds) (KT_NoCommand : KindT K knd (.ref (He.ga K "NoCommand")) "NoCommand" false) (gl_NoCommand : mg "NoCommand" = some (.ref (He.ga K "NoCommand"))) (KT_NoText : KindT K knd (.ref (He.ga K "NoText")) "NoText" false) (gl_NoText : mg "NoText" = some (.ref (He.ga K "NoText"))) (KT_NoEntry : KindT K knd (.ref (He.ga K "NoEntry")) "NoEntry" false) (gl_NoEntry : mg "NoEntry" = some (.ref (He.ga K "NoEntry"))) (KT_Full : KindT K knd (.ref (He.ga K "Full")) "Full" false) (gl_Full : mg "Full" = some (.ref (He.ga K "Full"))) (KT_NoDeed : KindT K knd (.ref (He.ga K "NoDeed")) "NoDeed" false) (gl_NoDeed : mg "NoDeed" = some (.ref (He.ga K "NoDeed"))) (KT_TooFew : KindT K knd (.ref (He.ga K "TooFew")) "TooFew" false) (gl_TooFew : mg "TooFew" = some (.ref (He.ga K "TooFew"))) (KT_NoSwitch : KindT K knd (.ref (He.ga K "NoSwitch")) "NoSwitch" false) (gl_NoSwitch : mg "NoSwitch" = some (.ref (He.ga K "NoSwitch"))) (KT_NoRead : KindT K knd (.ref (He.ga K "NoRead")) "NoRead" false) (gl_NoRead : mg "NoRead" = some (.ref (He.ga K "NoRead"))) (KT_NotPlain : KindT K knd (.ref (He.ga K "NotPlain")) "NotPlain" false) (gl_NotPlain : mg "NotPlain" = some (.ref (He.ga K "NotPlain"))) (KT_Unlike : KindT K knd (.ref (He.ga K "Unlike")) "Unlike" false) (gl_Unlike : mg "Unlike" = some (.ref (He.ga K "Unlike"))) (KT_NoChain : KindT K knd (.ref (He.ga K "NoChain")) "NoChain" false) (gl_NoChain : mg "NoChain" = some (.ref (He.ga K "NoChain"))) (KT_NotRight : KindT K knd (.ref (He.ga K "NotRight")) "NotRight" false) (gl_NotRight : mg "NotRight" = some (.ref (He.ga K "NotRight"))) (KT_Hopeless : KindT K knd (.ref (He.ga K "Hopeless")) "Hopeless" false) (gl_Hopeless : mg "Hopeless" = some (.ref (He.ga K "Hopeless"))) (KT_NotBare : KindT K knd (.ref (He.ga K "NotBare")) "NotBare" false) (gl_NotBare : mg "NotBare" = some (.ref (He.ga K "NotBare"))) (KT_Unknown : KindT K knd (.ref (He.ga K "Unknown")) "Unknown" false) (gl_Unknown : mg "Unknown" = some (.ref (He.ga K "Unknown"))) (KT_BadTarget : KindT K knd (.ref (He.ga K "BadTarget")) "BadTarget" false) (gl_BadTarget : mg "BadTarget" = some (.ref (He.ga K "BadTarget"))) (KT_Broken : KindT K knd (.ref (He.ga K "Broken")) "Broken" false) (gl_Broken : mg "Broken" = some (.ref (He.ga K "Broken"))) (KT_NoWalker : KindT K knd (.ref (He.ga K "NoWalker")) "NoWalker" false) (gl_NoWalker : mg "NoWalker" = some (.ref (He.ga K "NoWalker"))) (KT_Nothing : KindT K knd (.ref (He.ga K "Nothing")) "Nothing" false) (gl_Nothing : mg "Nothing" = some (.ref (He.ga K "Nothing"))) (KT_Gone : KindT K knd (.ref (He.ga K "Gone")) "Gone" false) (gl_Gone : mg "Gone" = some (.ref (He.ga K "Gone"))) (KT_Freed : KindT K knd (.ref (He.ga K "Freed")) "Freed" false) (gl_Freed : mg "Freed" = some (.ref (He.ga K "Freed"))) (KT_Fault : KindT K knd (.ref (He.ga K "Fault")) "Fault" false) (gl_Fault : mg "Fault" = some (.ref (He.ga K "Fault"))) (KT_NoStep : KindT K knd (.ref (He.ga K "NoStep")) "NoStep" false) (gl_NoStep : mg "NoStep" = some (.ref (He.ga K "NoStep"))) (KT_TooMany : KindT K knd (.ref (He.ga K "TooMany")) "TooMany" false) (gl_TooMany : mg "TooMany" = some (.ref (He.ga K "TooMany"))) (KT_NoPlace : KindT K knd (.ref (He.ga K "NoPlace")) "NoPlace" false) (gl_NoPlace : mg "NoPlace" = some (.ref (He.ga K "NoPlace"))) (KT_NoWriter : KindT K knd (.ref (He.ga K "NoWriter")) "NoWriter" false) (gl_NoWriter : mg "NoWriter" = some (.ref (He.ga K "NoWriter"))) (KT_BadStatement : KindT K knd (.ref (He.ga K "BadStatement")) "BadStatement" false) (gl_BadStatement : mg "BadStatement" = some (.ref (He.ga K "BadStatement"))) (KT_Wrong : KindT K knd (.ref (He.ga K "Wrong")) "Wrong" false) (gl_Wrong : mg "Wrong" = some (.ref (He.ga K "Wrong"))) (n_isinstance : mg "isinstance" = none) : ReadyB P w K mg 1 "_law_kinds" ["_law_e"] 1 f_l_kinds :=
  readyB (s0 := s_l_kinds) (N := ["_law_e", "_law_found"]) (ps := ["_law_e"]) (m := b_l_kinds) h sc_l_kinds (fun _ _ _ _ _ _ us hl => match us, hl with | [_], _ => rfl) fun base hbs f cdv A outer s H E hr gd =>
    (ss_cons (s_set (i := 1) sc_l_kinds.nd rfl (Or.inl rfl) (d_lst a_nil))
      (ss_cons (s_set (i := 1) sc_l_kinds.nd rfl (Or.inl rfl) (d_add (d_var 1) (d_lst (a_cons (d_isK KT_Wrong (by rfl) n_isinstance (by rfl) gl_Wrong (d_var 0)) (a_cons (d_isK KT_BadStatement (by rfl) n_isinstance (by rfl) gl_BadStatement (d_var 0)) (a_cons (d_isK KT_NoWriter (by rfl) n_isinstance (by rfl) gl_NoWriter (d_var 0)) (a_cons (d_isK KT_NoPlace (by rfl) n_isinstance (by rfl) gl_NoPlace (d_var 0)) a_nil)))))))
      (ss_cons (s_set (i := 1) sc_l_kinds.nd rfl (Or.inl rfl) (d_add (d_var 1) (d_lst (a_cons (d_isK KT_TooMany (by rfl) n_isinstance (by rfl) gl_TooMany (d_var 0)) (a_cons (d_isK KT_NoStep (by rfl) n_isinstance (by rfl) gl_NoStep (d_var 0)) (a_cons (d_isK KT_Fault (by rfl) n_isinstance (by rfl) gl_Fault (d_var 0)) (a_cons (d_isK KT_Freed (by rfl) n_isinstance (by rfl) gl_Freed (d_var 0)) a_nil)))))))
      (ss_cons (s_set (i := 1) sc_l_kinds.nd rfl (Or.inl rfl) (d_add (d_var 1) (d_lst (a_cons (d_isK KT_Gone (by rfl) n_isinstance (by rfl) gl_Gone (d_var 0)) (a_cons (d_isK KT_Nothing (by rfl) n_isinstance (by rfl) gl_Nothing (d_var 0)) (a_cons (d_isK KT_NoWalker (by rfl) n_isinstance (by rfl) gl_NoWalker (d_var 0)) (a_cons (d_isK KT_Broken (by rfl) n_isinstance (by rfl) gl_Broken (d_var 0)) a_nil)))))))
      (ss_cons (s_set (i := 1) sc_l_kinds.nd rfl (Or.inl rfl) (d_add (d_var 1) (d_lst (a_cons (d_isK KT_BadTarget (by rfl) n_isinstance (by rfl) gl_BadTarget (d_var 0)) (a_cons (d_isK KT_Unknown (by rfl) n_isinstance (by rfl) gl_Unknown (d_var 0)) (a_cons (d_isK KT_NotBare (by rfl) n_isinstance (by rfl) gl_NotBare (d_var 0)) (a_cons (d_isK KT_Hopeless (by rfl) n_isinstance (by rfl) gl_Hopeless (d_var 0)) a_nil)))))))
      (ss_cons (s_set (i := 1) sc_l_kinds.nd rfl (Or.inl rfl) (d_add (d_var 1) (d_lst (a_cons (d_isK KT_NotRight (by rfl) n_isinstance (by rfl) gl_NotRight (d_var 0)) (a_cons (d_isK KT_NoChain (by rfl) n_isinstance (by rfl) gl_NoChain (d_var 0)) (a_cons (d_isK KT_Unlike (by rfl) n_isinstance (by rfl) gl_Unlike (d_var 0)) (a_cons (d_isK KT_NotPlain (by rfl) n_isinstance (by rfl) gl_NotPlain (d_var 0)) a_nil)))))))
      (ss_cons (s_set (i := 1) sc_l_kinds.nd rfl (Or.inl rfl) (d_add (d_var 1) (d_lst (a_cons (d_isK KT_NoRead (by rfl) n_isinstance (by rfl) gl_NoRead (d_var 0)) (a_cons (d_isK KT_NoSwitch (by rfl) n_isinstance (by rfl) gl_NoSwitch (d_var 0)) (a_cons (d_isK KT_TooFew (by rfl) n_isinstance (by rfl) gl_TooFew (d_var 0)) (a_cons (d_isK KT_NoDeed (by rfl) n_isinstance (by rfl) gl_NoDeed (d_var 0)) a_nil)))))))
      (ss_cons (s_set (i := 1) sc_l_kinds.nd rfl (Or.inl rfl) (d_add (d_var 1) (d_lst (a_cons (d_isK KT_Full (by rfl) n_isinstance (by rfl) gl_Full (d_var 0)) (a_cons (d_isK KT_NoEntry (by rfl) n_isinstance (by rfl) gl_NoEntry (d_var 0)) (a_cons (d_isK KT_NoText (by rfl) n_isinstance (by rfl) gl_NoText (d_var 0)) (a_cons (d_isK KT_NoCommand (by rfl) n_isinstance (by rfl) gl_NoCommand (d_var 0)) a_nil)))))))
      (ss_one (s_ret (d_var 1)))))))))))
abbrev s_l_fields : Stmt := topS 37
theorem sc_l_fields : FnScope ["_law_some", "_law_found"] ["_law_some"] (defScope s_l_fields) := ⟨rfl, rfl, rfl, by decide +kernel, rfl, by decide +kernel, by decide +kernel⟩
def b_l_fields : MS := (sSeq (sSet 1 (mLst (aCons (m1 (fldV "Wrong" "place") (m2 ixD (mVar 0) (mC (.int 0)))) (aCons (m1 (fldV "BadStatement" "writer") (m2 ixD (mVar 0) (mC (.int 1)))) (aCons (m1 (fldV "NoWriter" "writer") (m2 ixD (mVar 0) (mC (.int 2)))) (aCons (m1 (fldV "NoPlace" "place") (m2 ixD (mVar 0) (mC (.int 3)))) (aCons (m1 (fldV "TooMany" "limit") (m2 ixD (mVar 0) (mC (.int 4)))) (aCons (m1 (fldV "Fault" "writer") (m2 ixD (mVar 0) (mC (.int 6)))) aNil))))))))
  (sSeq (sSet 1 (m2 addD (mVar 1) (mLst (aCons (m1 (fldV "Freed" "cell") (m2 ixD (mVar 0) (mC (.int 7)))) (aCons (m1 (fldV "Gone" "walker") (m2 ixD (mVar 0) (mC (.int 8)))) (aCons (m1 (fldV "NoWalker" "walker") (m2 ixD (mVar 0) (mC (.int 10)))) (aCons (m1 (fldV "Broken" "at") (m2 ixD (mVar 0) (mC (.int 11)))) (aCons (m1 (fldV "BadTarget" "place") (m2 ixD (mVar 0) (mC (.int 12)))) (aCons (m1 (fldV "Unknown" "name") (m2 ixD (mVar 0) (mC (.int 13)))) aNil)))))))))
  (sSeq (sSet 1 (m2 addD (mVar 1) (mLst (aCons (m1 (fldV "NotBare" "at") (m2 ixD (mVar 0) (mC (.int 14)))) (aCons (m1 (fldV "Hopeless" "at") (m2 ixD (mVar 0) (mC (.int 15)))) (aCons (m1 (fldV "NoChain" "root") (m2 ixD (mVar 0) (mC (.int 17)))) (aCons (m1 (fldV "NotPlain" "which") (m2 ixD (mVar 0) (mC (.int 19)))) (aCons (m1 (fldV "NoRead" "at") (m2 ixD (mVar 0) (mC (.int 20)))) (aCons (m1 (fldV "NoSwitch" "place") (m2 ixD (mVar 0) (mC (.int 21)))) aNil)))))))))
  (sSeq (sSet 1 (m2 addD (mVar 1) (mLst (aCons (m1 (fldV "TooFew" "many") (m2 ixD (mVar 0) (mC (.int 22)))) (aCons (m1 (fldV "Full" "limit") (m2 ixD (mVar 0) (mC (.int 24)))) (aCons (m1 (fldV "NoEntry" "many") (m2 ixD (mVar 0) (mC (.int 25)))) aNil))))))
  (sRet (mTup (aCons (mVar 1) (aCons (mLst (aCons (m1 (fldV "BadStatement" "address") (m2 ixD (mVar 0) (mC (.int 1)))) (aCons (m1 (fldV "Fault" "address") (m2 ixD (mVar 0) (mC (.int 6)))) (aCons (m1 (fldV "NoChain" "field") (m2 ixD (mVar 0) (mC (.int 17)))) aNil)))) (aCons (mLst (aCons (m1 (fldV "Fault" "name") (m2 ixD (mVar 0) (mC (.int 6)))) aNil)) aNil)))))))))
def f_l_fields : List D → State → Option (D × State) := fnM 2 b_l_fields
theorem ok_l_fields (h : At K mg "_law_fields" s_l_fields) (FV_Fault_name : FldV K "Fault" "name") (FV_NoChain_field : FldV K "NoChain" "field") (FV_Fault_address : FldV K "Fault" "address") (FV_BadStatement_address : FldV K "BadStatement" "address") (FV_NoEntry_many : FldV K "NoEntry" "many") (FV_Full_limit : FldV K "Full" "limit") (FV_TooFew_many : FldV K "TooFew" "many") (FV_NoSwitch_place : FldV K "NoSwitch" "place") (FV_NoRead_at : FldV K "NoRead" "at") (FV_NotPlain_which : FldV K "NotPlain" "which") (FV_NoChain_root : FldV K "NoChain" "root") (FV_Hopeless_at : FldV K "Hopeless" "at") (FV_NotBare_at : FldV K "NotBare" "at") (FV_Unknown_name : FldV K "Unknown" "name") (FV_BadTarget_place : FldV K "BadTarget" "place") (FV_Broken_at : FldV K "Broken" "at") (FV_NoWalker_walker : FldV K "NoWalker" "walker") (FV_Gone_walker : FldV K "Gone" "walker") (FV_Freed_cell : FldV K "Freed" "cell") (FV_Fault_writer : FldV K "Fault" "writer") (FV_TooMany_limit : FldV K "TooMany" "limit") (FV_NoPlace_place : FldV K "NoPlace" "place") (FV_NoWriter_writer : FldV K "NoWriter" "writer") (FV_BadStatement_writer : FldV K "BadStatement" "writer") (FV_Wrong_place : FldV K "Wrong" "place") : ReadyB P w K mg 1 "_law_fields" ["_law_some"] 1 f_l_fields :=
  readyB (s0 := s_l_fields) (N := ["_law_some", "_law_found"]) (ps := ["_law_some"]) (m := b_l_fields) h sc_l_fields (fun _ _ _ _ _ _ us hl => match us, hl with | [_], _ => rfl) fun base hbs f cdv A outer s H E hr gd =>
    (ss_cons (s_set (i := 1) sc_l_fields.nd rfl (Or.inl rfl) (d_lst (a_cons (d_fldV FV_Wrong_place (d_item (d_var 0) d_int)) (a_cons (d_fldV FV_BadStatement_writer (d_item (d_var 0) d_int)) (a_cons (d_fldV FV_NoWriter_writer (d_item (d_var 0) d_int)) (a_cons (d_fldV FV_NoPlace_place (d_item (d_var 0) d_int)) (a_cons (d_fldV FV_TooMany_limit (d_item (d_var 0) d_int)) (a_cons (d_fldV FV_Fault_writer (d_item (d_var 0) d_int)) a_nil))))))))
      (ss_cons (s_set (i := 1) sc_l_fields.nd rfl (Or.inl rfl) (d_add (d_var 1) (d_lst (a_cons (d_fldV FV_Freed_cell (d_item (d_var 0) d_int)) (a_cons (d_fldV FV_Gone_walker (d_item (d_var 0) d_int)) (a_cons (d_fldV FV_NoWalker_walker (d_item (d_var 0) d_int)) (a_cons (d_fldV FV_Broken_at (d_item (d_var 0) d_int)) (a_cons (d_fldV FV_BadTarget_place (d_item (d_var 0) d_int)) (a_cons (d_fldV FV_Unknown_name (d_item (d_var 0) d_int)) a_nil)))))))))
      (ss_cons (s_set (i := 1) sc_l_fields.nd rfl (Or.inl rfl) (d_add (d_var 1) (d_lst (a_cons (d_fldV FV_NotBare_at (d_item (d_var 0) d_int)) (a_cons (d_fldV FV_Hopeless_at (d_item (d_var 0) d_int)) (a_cons (d_fldV FV_NoChain_root (d_item (d_var 0) d_int)) (a_cons (d_fldV FV_NotPlain_which (d_item (d_var 0) d_int)) (a_cons (d_fldV FV_NoRead_at (d_item (d_var 0) d_int)) (a_cons (d_fldV FV_NoSwitch_place (d_item (d_var 0) d_int)) a_nil)))))))))
      (ss_cons (s_set (i := 1) sc_l_fields.nd rfl (Or.inl rfl) (d_add (d_var 1) (d_lst (a_cons (d_fldV FV_TooFew_many (d_item (d_var 0) d_int)) (a_cons (d_fldV FV_Full_limit (d_item (d_var 0) d_int)) (a_cons (d_fldV FV_NoEntry_many (d_item (d_var 0) d_int)) a_nil))))))
      (ss_one (s_ret (d_tup (a_cons (d_var 1) (a_cons (d_lst (a_cons (d_fldV FV_BadStatement_address (d_item (d_var 0) d_int)) (a_cons (d_fldV FV_Fault_address (d_item (d_var 0) d_int)) (a_cons (d_fldV FV_NoChain_field (d_item (d_var 0) d_int)) a_nil)))) (a_cons (d_lst (a_cons (d_fldV FV_Fault_name (d_item (d_var 0) d_int)) a_nil)) a_nil))))))))))
abbrev s_law : Stmt := topS 38
theorem sc_law : FnScope ["_law_script", "_law_bag_here", "_law_turn", "_law_one", "_law_two", "_law_three", "_law_some", "_law_again", "_law_thing_here", "_law_at", "_law_e", "_law_k"] ["_law_script"] (defScope s_law) := ⟨rfl, rfl, rfl, by decide +kernel, rfl, by decide +kernel, by decide +kernel⟩
def b_law : MS := (sSeq (sSet 1 (mCallN 1 f_l_bag (aCons (mVar 0) aNil)))
  (sSeq (sFor (iRngM (mC (.int 5))) (gNameM 2) (sSeq (sPar3 3 4 5 (aCons (mCallN 1 f_l_thing (aCons (mVar 1) aNil)) (aCons (mCallN 1 f_l_thing (aCons (mVar 1) aNil)) (aCons (mCallN 1 f_l_thing (aCons (mVar 1) aNil)) aNil))))
  (sSeq (sSet 6 (mCallN 3 f_l_errors (aCons (mVar 3) (aCons (mVar 4) (aCons (mVar 5) aNil)))))
  (sSeq (sFor (iRngM (mC (.int 2))) (gNameM 7) (sSeq (sIf (tNotM (tOf (mCallN 2 f_l_alikeE (aCons (mCallN 1 f_l_fields (aCons (mVar 6) aNil)) (aCons (mTup (aCons (m2 mulD (mLst (aCons (mVar 3) aNil)) (mC (.int 21))) (aCons (m2 mulD (mLst (aCons (mVar 4) aNil)) (mC (.int 3))) (aCons (mLst (aCons (mVar 5) aNil)) aNil)))) aNil))))) (sRet (mC (.bl false))) sNext)
  (sFor (iTupM (mTup (aCons (mVar 3) (aCons (mVar 4) (aCons (mVar 5) aNil))))) (gNameM 8) (sSeq (sIf (tOf (mN isD (aCons (mVar 8) (aCons (mC (.ty "list")) aNil)))) (sDrop (mApp (mVar 8) (mC (.str "new")))) sNext)
  (sIf (tOf (mN isD (aCons (mVar 8) (aCons (mC (.ty "dict")) aNil)))) (sSetDD (mC (.int 2)) (mVar 8) (mC (.str "b"))) sNext)))))
  (sSeq (sFor (iEnumM (aCons (mVar 6) aNil)) (gTupM 2 (gsCons (gNameM 9) (gsCons (gNameM 10) gsNil))) (sSeq (sIf (tOf (m2 neA (mCallN 1 f_l_kinds (aCons (mVar 10) aNil)) (mLc (iRngM (mC (.int 28))) [11] (gNameM 11) tYesM (m2 eqA (mVar 11) (mVar 9))))) (sRet (mC (.bl false))) sNext)
  (sIf (tOrM (tNotM (tOf (m1 (isK knd "AskError" true) (mVar 10)))) (tNotM (tOf (m1 (isK knd "ValueError" true) (mVar 10))))) (sRet (mC (.bl false))) sNext)))
  (sFor (iLst (mLst (aCons (mErrN "AskError" (aCons (mVar 3) aNil)) (aCons (mC (.exv "AskError" [] [])) (aCons (mErrN "AskError" (aCons (mC (.str "a")) (aCons (mC (.int 1)) aNil))) aNil))))) (gNameM 10) (sIf (tOrM (tOf (m2 inD (mC (.bl true)) (mCallN 1 f_l_kinds (aCons (mVar 10) aNil)))) (tNotM (tOf (m1 (isK knd "ValueError" true) (mVar 10))))) (sRet (mC (.bl false))) sNext)))))))
  (sRet (mC (.bl true)))))
def f_law : List D → State → Option (D × State) := fnM 12 b_law
theorem ok_law (h : At K mg "law" s_law) (EP_AskError : ErrP K mg "AskError") (KT_ValueError : KindT K knd (.type "ValueError") "ValueError" true) (KT_AskError : KindT K knd (.ref (He.ga K "AskError")) "AskError" true) (gl_AskError : mg "AskError" = some (.ref (He.ga K "AskError"))) (n_range : mg "range" = none) (n_isinstance : mg "isinstance" = none) (n_ValueError : mg "ValueError" = none) (n_enumerate : mg "enumerate" = none) (n_dict : mg "dict" = none) (n_list : mg "list" = none) (R_l_kinds : ReadyB P w K mg 1 "_law_kinds" ["_law_e"] 1 f_l_kinds) (R_l_fields : ReadyB P w K mg 1 "_law_fields" ["_law_some"] 1 f_l_fields) (R_l_alikeE : ReadyB P w K mg 1 "_law_alike" ["_law_found", "_law_right"] 2 f_l_alikeE) (R_l_errors : ReadyB P w K mg 4 "_law_errors" ["_law_one", "_law_two", "_law_three"] 3 f_l_errors) (R_l_thing : ReadyB P w K mg 2 "_law_thing" ["_law_bag_here"] 1 f_l_thing) (R_l_bag : ReadyB P w K mg 1 "_law_bag" ["_law_script"] 1 f_l_bag) : ReadyB P w K mg 5 "law" ["_law_script"] 1 f_law :=
  readyB (s0 := s_law) (N := ["_law_script", "_law_bag_here", "_law_turn", "_law_one", "_law_two", "_law_three", "_law_some", "_law_again", "_law_thing_here", "_law_at", "_law_e", "_law_k"]) (ps := ["_law_script"]) (m := b_law) h sc_law (fun _ _ _ _ _ _ us hl => match us, hl with | [_], _ => rfl) fun base hbs f cdv A outer s H E hr gd =>
    (ss_cons (s_set (i := 1) sc_law.nd rfl (Or.inl rfl) (d_fnB R_l_bag hbs (hr.mono (by decide)) gd (by rfl) (a_cons (d_var 0) a_nil)))
      (ss_cons (s_for PassesOwn.never rfl (i_range (by rfl) n_range d_int) (g_name sc_law.nd rfl (by first | exact Or.inl rfl | exact Or.inr rfl)) (ss_cons (s_par3 (i := 3) (j := 4) (l := 5) rfl sc_law.nd rfl rfl rfl (by decide) (by decide) (by decide) rfl rfl rfl (a_cons (d_fnB R_l_thing hbs (hr.mono (by decide)) gd (by rfl) (a_cons (d_var 1) a_nil)) (a_cons (d_fnB R_l_thing hbs (hr.mono (by decide)) gd (by rfl) (a_cons (d_var 1) a_nil)) (a_cons (d_fnB R_l_thing hbs (hr.mono (by decide)) gd (by rfl) (a_cons (d_var 1) a_nil)) a_nil))))
      (ss_cons (s_set (i := 6) sc_law.nd rfl (Or.inl rfl) (d_fnB R_l_errors hbs (hr.mono (by decide)) gd (by rfl) (a_cons (d_var 3) (a_cons (d_var 4) (a_cons (d_var 5) a_nil)))))
      (ss_cons (s_for PassesOwn.never rfl (i_range (by rfl) n_range d_int) (g_name sc_law.nd rfl (by first | exact Or.inl rfl | exact Or.inr rfl)) (ss_cons (s_if (t_not (t_val (d_fnB R_l_alikeE hbs (hr.mono (by decide)) gd (by rfl) (a_cons (d_fnB R_l_fields hbs (hr.mono (by decide)) gd (by rfl) (a_cons (d_var 6) a_nil)) (a_cons (d_tup (a_cons (d_mul (d_lst (a_cons (d_var 3) a_nil)) d_int) (a_cons (d_mul (d_lst (a_cons (d_var 4) a_nil)) d_int) (a_cons (d_lst (a_cons (d_var 5) a_nil)) a_nil)))) a_nil))))) (ss_one (s_ret d_bl)) ss_nil)
      (ss_one (s_for PassesOwn.never rfl (i_tup (d_tup (a_cons (d_var 3) (a_cons (d_var 4) (a_cons (d_var 5) a_nil))))) (g_name sc_law.nd rfl (by first | exact Or.inl rfl | exact Or.inr rfl)) (ss_cons (s_if (t_val (d_callB call_isi rn_is (by rfl) n_isinstance (by decide +kernel) (a_cons (d_var 8) (a_cons (d_gty (by rfl) n_list (by decide +kernel)) a_nil)))) (ss_one (s_expr (d_app (d_var 8) d_str))) ss_nil)
      (ss_one (s_if (t_val (d_callB call_isi rn_is (by rfl) n_isinstance (by decide +kernel) (a_cons (d_var 8) (a_cons (d_gty (by rfl) n_dict (by decide +kernel)) a_nil)))) (ss_one (s_setDD (u64 (u66 hr)) d_int (d_var 8) d_str)) ss_nil)))))))
      (ss_cons (s_for PassesOwn.never rfl (i_enum (by rfl) n_enumerate (a_cons (d_var 6) a_nil)) (g_tup rfl (gs_cons (g_name sc_law.nd rfl (by first | exact Or.inl rfl | exact Or.inr rfl)) (gs_cons (g_name sc_law.nd rfl (by first | exact Or.inl rfl | exact Or.inr rfl)) gs_nil))) (ss_cons (s_if (tc (c_ne hr.units) (d_fnB R_l_kinds hbs (hr.mono (by decide)) gd (by rfl) (a_cons (d_var 10) a_nil)) (d_lc rfl sc_law.nd (i_range (by rfl) n_range d_int) (blkOk_by (own := [("_law_k", 11)]) (N := ["_law_script", "_law_bag_here", "_law_turn", "_law_one", "_law_two", "_law_three", "_law_some", "_law_again", "_law_thing_here", "_law_at", "_law_e", "_law_k"]) (sc := defScope s_law) (by decide +kernel)) (fun _ => (g_name sc_law.nd rfl (by first | exact Or.inl rfl | exact Or.inr rfl))) (fun _ => ts_nil) (fun _ => (dc (c_eq hr.units) (d_var 11) (d_var 9))) (by decide))) (ss_one (s_ret d_bl)) ss_nil)
      (ss_one (s_if (t_of (w_or (t_not (t_val (d_isK KT_AskError (by rfl) n_isinstance (by rfl) gl_AskError (d_var 10)))) (w_or1 (t_not (t_val (d_isKT KT_ValueError (by rfl) n_isinstance (by rfl) n_ValueError (d_var 10) (by decide +kernel))))))) (ss_one (s_ret d_bl)) ss_nil))))
      (ss_one (s_for PassesOwn.never rfl (i_list (d_lst (a_cons (d_errN EP_AskError (by rfl) (a_cons (d_var 3) a_nil)) (a_cons (d_errN0 EP_AskError (by rfl)) (a_cons (d_errN EP_AskError (by rfl) (a_cons d_str (a_cons d_int a_nil))) a_nil))))) (g_name sc_law.nd rfl (by first | exact Or.inl rfl | exact Or.inr rfl)) (ss_one (s_if (t_of (w_or (tc c_in d_bl (d_fnB R_l_kinds hbs (hr.mono (by decide)) gd (by rfl) (a_cons (d_var 10) a_nil))) (w_or1 (t_not (t_val (d_isKT KT_ValueError (by rfl) n_isinstance (by rfl) n_ValueError (d_var 10) (by decide +kernel))))))) (ss_one (s_ret d_bl)) ss_nil)))))))))
      (ss_one (s_ret d_bl))))
end
def h_l_bag : He.DefD := ⟨("_law_bag", none), "_law_bag", "_law_bag", defArgs s_l_bag, defBody s_l_bag, defScope s_l_bag, [], []⟩
def h_l_take : He.DefD := ⟨("_law_take", none), "_law_take", "_law_take", defArgs s_l_take, defBody s_l_take, defScope s_l_take, [], []⟩
def h_l_alikeE : He.DefD := ⟨("_law_alike", none), "_law_alike", "_law_alike", defArgs s_l_alikeE, defBody s_l_alikeE, defScope s_l_alikeE, [], []⟩
def h_l_thing : He.DefD := ⟨("_law_thing", none), "_law_thing", "_law_thing", defArgs s_l_thing, defBody s_l_thing, defScope s_l_thing, [], []⟩
def h_l_errors : He.DefD := ⟨("_law_errors", none), "_law_errors", "_law_errors", defArgs s_l_errors, defBody s_l_errors, defScope s_l_errors, [], []⟩
def h_l_kinds : He.DefD := ⟨("_law_kinds", none), "_law_kinds", "_law_kinds", defArgs s_l_kinds, defBody s_l_kinds, defScope s_l_kinds, [], []⟩
def h_l_fields : He.DefD := ⟨("_law_fields", none), "_law_fields", "_law_fields", defArgs s_l_fields, defBody s_l_fields, defScope s_l_fields, [], []⟩
def h_law : He.DefD := ⟨("law", none), "law", "law", defArgs s_law, defBody s_law, defScope s_law, [], []⟩
def headFn : List He.DefD := [h_l_bag, h_l_take, h_l_alikeE, h_l_thing, h_l_errors, h_l_kinds, h_l_fields, h_law]
abbrev s_Wrong_init : Stmt := inClass (topS 2) 0
def e_Wrong : ErD := ⟨"Wrong", defArgs s_Wrong_init, defBody s_Wrong_init, defScope s_Wrong_init, ["place"]⟩
abbrev s_BadStatement_init : Stmt := inClass (topS 3) 0
def e_BadStatement : ErD := ⟨"BadStatement", defArgs s_BadStatement_init, defBody s_BadStatement_init, defScope s_BadStatement_init, ["writer", "address"]⟩
abbrev s_NoWriter_init : Stmt := inClass (topS 4) 0
def e_NoWriter : ErD := ⟨"NoWriter", defArgs s_NoWriter_init, defBody s_NoWriter_init, defScope s_NoWriter_init, ["writer"]⟩
abbrev s_NoPlace_init : Stmt := inClass (topS 5) 0
def e_NoPlace : ErD := ⟨"NoPlace", defArgs s_NoPlace_init, defBody s_NoPlace_init, defScope s_NoPlace_init, ["place"]⟩
abbrev s_TooMany_init : Stmt := inClass (topS 6) 0
def e_TooMany : ErD := ⟨"TooMany", defArgs s_TooMany_init, defBody s_TooMany_init, defScope s_TooMany_init, ["limit"]⟩
abbrev s_NoStep_init : Stmt := inClass (topS 7) 0
def e_NoStep : ErD := ⟨"NoStep", defArgs s_NoStep_init, defBody s_NoStep_init, defScope s_NoStep_init, []⟩
abbrev s_Fault_init : Stmt := inClass (topS 8) 0
def e_Fault : ErD := ⟨"Fault", defArgs s_Fault_init, defBody s_Fault_init, defScope s_Fault_init, ["writer", "address", "name"]⟩
abbrev s_Freed_init : Stmt := inClass (topS 9) 0
def e_Freed : ErD := ⟨"Freed", defArgs s_Freed_init, defBody s_Freed_init, defScope s_Freed_init, ["cell"]⟩
abbrev s_Gone_init : Stmt := inClass (topS 10) 0
def e_Gone : ErD := ⟨"Gone", defArgs s_Gone_init, defBody s_Gone_init, defScope s_Gone_init, ["walker"]⟩
abbrev s_Nothing_init : Stmt := inClass (topS 11) 0
def e_Nothing : ErD := ⟨"Nothing", defArgs s_Nothing_init, defBody s_Nothing_init, defScope s_Nothing_init, []⟩
abbrev s_NoWalker_init : Stmt := inClass (topS 12) 0
def e_NoWalker : ErD := ⟨"NoWalker", defArgs s_NoWalker_init, defBody s_NoWalker_init, defScope s_NoWalker_init, ["walker"]⟩
abbrev s_Broken_init : Stmt := inClass (topS 13) 0
def e_Broken : ErD := ⟨"Broken", defArgs s_Broken_init, defBody s_Broken_init, defScope s_Broken_init, ["at"]⟩
abbrev s_BadTarget_init : Stmt := inClass (topS 14) 0
def e_BadTarget : ErD := ⟨"BadTarget", defArgs s_BadTarget_init, defBody s_BadTarget_init, defScope s_BadTarget_init, ["place"]⟩
abbrev s_Unknown_init : Stmt := inClass (topS 15) 0
def e_Unknown : ErD := ⟨"Unknown", defArgs s_Unknown_init, defBody s_Unknown_init, defScope s_Unknown_init, ["name"]⟩
abbrev s_NotBare_init : Stmt := inClass (topS 16) 0
def e_NotBare : ErD := ⟨"NotBare", defArgs s_NotBare_init, defBody s_NotBare_init, defScope s_NotBare_init, ["at"]⟩
abbrev s_Hopeless_init : Stmt := inClass (topS 17) 0
def e_Hopeless : ErD := ⟨"Hopeless", defArgs s_Hopeless_init, defBody s_Hopeless_init, defScope s_Hopeless_init, ["at"]⟩
abbrev s_NotRight_init : Stmt := inClass (topS 18) 0
def e_NotRight : ErD := ⟨"NotRight", defArgs s_NotRight_init, defBody s_NotRight_init, defScope s_NotRight_init, []⟩
abbrev s_NoChain_init : Stmt := inClass (topS 19) 0
def e_NoChain : ErD := ⟨"NoChain", defArgs s_NoChain_init, defBody s_NoChain_init, defScope s_NoChain_init, ["root", "field"]⟩
abbrev s_Unlike_init : Stmt := inClass (topS 20) 0
def e_Unlike : ErD := ⟨"Unlike", defArgs s_Unlike_init, defBody s_Unlike_init, defScope s_Unlike_init, []⟩
abbrev s_NotPlain_init : Stmt := inClass (topS 21) 0
def e_NotPlain : ErD := ⟨"NotPlain", defArgs s_NotPlain_init, defBody s_NotPlain_init, defScope s_NotPlain_init, ["which"]⟩
abbrev s_NoRead_init : Stmt := inClass (topS 22) 0
def e_NoRead : ErD := ⟨"NoRead", defArgs s_NoRead_init, defBody s_NoRead_init, defScope s_NoRead_init, ["at"]⟩
abbrev s_NoSwitch_init : Stmt := inClass (topS 23) 0
def e_NoSwitch : ErD := ⟨"NoSwitch", defArgs s_NoSwitch_init, defBody s_NoSwitch_init, defScope s_NoSwitch_init, ["place"]⟩
abbrev s_TooFew_init : Stmt := inClass (topS 24) 0
def e_TooFew : ErD := ⟨"TooFew", defArgs s_TooFew_init, defBody s_TooFew_init, defScope s_TooFew_init, ["many"]⟩
abbrev s_NoDeed_init : Stmt := inClass (topS 25) 0
def e_NoDeed : ErD := ⟨"NoDeed", defArgs s_NoDeed_init, defBody s_NoDeed_init, defScope s_NoDeed_init, []⟩
abbrev s_Full_init : Stmt := inClass (topS 26) 0
def e_Full : ErD := ⟨"Full", defArgs s_Full_init, defBody s_Full_init, defScope s_Full_init, ["limit"]⟩
abbrev s_NoEntry_init : Stmt := inClass (topS 27) 0
def e_NoEntry : ErD := ⟨"NoEntry", defArgs s_NoEntry_init, defBody s_NoEntry_init, defScope s_NoEntry_init, ["many"]⟩
abbrev s_NoText_init : Stmt := inClass (topS 28) 0
def e_NoText : ErD := ⟨"NoText", defArgs s_NoText_init, defBody s_NoText_init, defScope s_NoText_init, []⟩
abbrev s_NoCommand_init : Stmt := inClass (topS 29) 0
def e_NoCommand : ErD := ⟨"NoCommand", defArgs s_NoCommand_init, defBody s_NoCommand_init, defScope s_NoCommand_init, []⟩
def headEr : List ErD := [e_Wrong, e_BadStatement, e_NoWriter, e_NoPlace, e_TooMany, e_NoStep, e_Fault, e_Freed, e_Gone, e_Nothing, e_NoWalker, e_Broken, e_BadTarget, e_Unknown, e_NotBare, e_Hopeless, e_NotRight, e_NoChain, e_Unlike, e_NotPlain, e_NoRead, e_NoSwitch, e_TooFew, e_NoDeed, e_Full, e_NoEntry, e_NoText, e_NoCommand]
def headFa : List He.Fa := [.glo "_law_bag", .glo "_law_take", .glo "_law_alike", .glo "_law_thing", .glo "_law_errors", .glo "_law_kinds", .glo "_law_fields", .glo "law", .free "abs", .free "int", .free "len", .free "repr", .free "isinstance", .free "range", .free "ValueError", .free "enumerate", .free "dict", .free "list", .glo "NoCommand", .glo "NoText", .glo "NoEntry", .glo "Full", .glo "NoDeed", .glo "TooFew", .glo "NoSwitch", .glo "NoRead", .glo "NotPlain", .glo "Unlike", .glo "NoChain", .glo "NotRight", .glo "Hopeless", .glo "NotBare", .glo "Unknown", .glo "BadTarget", .glo "Broken", .glo "NoWalker", .glo "Nothing", .glo "Gone", .glo "Freed", .glo "Fault", .glo "NoStep", .glo "TooMany", .glo "NoPlace", .glo "NoWriter", .glo "BadStatement", .glo "Wrong", .glo "AskError"]
def exB (K : PySem.W.Frag) : Bool := excAll K knd && (kindB K knd (.ref (He.ga K "NoCommand")) "NoCommand" false && (kindB K knd (.ref (He.ga K "NoText")) "NoText" false && (kindB K knd (.ref (He.ga K "NoEntry")) "NoEntry" false && (kindB K knd (.ref (He.ga K "Full")) "Full" false && (kindB K knd (.ref (He.ga K "NoDeed")) "NoDeed" false && (kindB K knd (.ref (He.ga K "TooFew")) "TooFew" false && (kindB K knd (.ref (He.ga K "NoSwitch")) "NoSwitch" false && (kindB K knd (.ref (He.ga K "NoRead")) "NoRead" false && (kindB K knd (.ref (He.ga K "NotPlain")) "NotPlain" false && (kindB K knd (.ref (He.ga K "Unlike")) "Unlike" false && (kindB K knd (.ref (He.ga K "NoChain")) "NoChain" false && (kindB K knd (.ref (He.ga K "NotRight")) "NotRight" false && (kindB K knd (.ref (He.ga K "Hopeless")) "Hopeless" false && (kindB K knd (.ref (He.ga K "NotBare")) "NotBare" false && (kindB K knd (.ref (He.ga K "Unknown")) "Unknown" false && (kindB K knd (.ref (He.ga K "BadTarget")) "BadTarget" false && (kindB K knd (.ref (He.ga K "Broken")) "Broken" false && (kindB K knd (.ref (He.ga K "NoWalker")) "NoWalker" false && (kindB K knd (.ref (He.ga K "Nothing")) "Nothing" false && (kindB K knd (.ref (He.ga K "Gone")) "Gone" false && (kindB K knd (.ref (He.ga K "Freed")) "Freed" false && (kindB K knd (.ref (He.ga K "Fault")) "Fault" false && (kindB K knd (.ref (He.ga K "NoStep")) "NoStep" false && (kindB K knd (.ref (He.ga K "TooMany")) "TooMany" false && (kindB K knd (.ref (He.ga K "NoPlace")) "NoPlace" false && (kindB K knd (.ref (He.ga K "NoWriter")) "NoWriter" false && (kindB K knd (.ref (He.ga K "BadStatement")) "BadStatement" false && (kindB K knd (.ref (He.ga K "Wrong")) "Wrong" false && (kindB K knd (.type "ValueError") "ValueError" true && (kindB K knd (.ref (He.ga K "AskError")) "AskError" true && (He.eqO (PySem.W.findIn K (.ref (He.ga K "Fault")) "name") (some none) && (He.eqO (PySem.W.findIn K (.ref (He.ga K "NoChain")) "field") (some none) && (He.eqO (PySem.W.findIn K (.ref (He.ga K "Fault")) "address") (some none) && (He.eqO (PySem.W.findIn K (.ref (He.ga K "BadStatement")) "address") (some none) && (He.eqO (PySem.W.findIn K (.ref (He.ga K "NoEntry")) "many") (some none) && (He.eqO (PySem.W.findIn K (.ref (He.ga K "Full")) "limit") (some none) && (He.eqO (PySem.W.findIn K (.ref (He.ga K "TooFew")) "many") (some none) && (He.eqO (PySem.W.findIn K (.ref (He.ga K "NoSwitch")) "place") (some none) && (He.eqO (PySem.W.findIn K (.ref (He.ga K "NoRead")) "at") (some none) && (He.eqO (PySem.W.findIn K (.ref (He.ga K "NotPlain")) "which") (some none) && (He.eqO (PySem.W.findIn K (.ref (He.ga K "NoChain")) "root") (some none) && (He.eqO (PySem.W.findIn K (.ref (He.ga K "Hopeless")) "at") (some none) && (He.eqO (PySem.W.findIn K (.ref (He.ga K "NotBare")) "at") (some none) && (He.eqO (PySem.W.findIn K (.ref (He.ga K "Unknown")) "name") (some none) && (He.eqO (PySem.W.findIn K (.ref (He.ga K "BadTarget")) "place") (some none) && (He.eqO (PySem.W.findIn K (.ref (He.ga K "Broken")) "at") (some none) && (He.eqO (PySem.W.findIn K (.ref (He.ga K "NoWalker")) "walker") (some none) && (He.eqO (PySem.W.findIn K (.ref (He.ga K "Gone")) "walker") (some none) && (He.eqO (PySem.W.findIn K (.ref (He.ga K "Freed")) "cell") (some none) && (He.eqO (PySem.W.findIn K (.ref (He.ga K "Fault")) "writer") (some none) && (He.eqO (PySem.W.findIn K (.ref (He.ga K "TooMany")) "limit") (some none) && (He.eqO (PySem.W.findIn K (.ref (He.ga K "NoPlace")) "place") (some none) && (He.eqO (PySem.W.findIn K (.ref (He.ga K "NoWriter")) "writer") (some none) && (He.eqO (PySem.W.findIn K (.ref (He.ga K "BadStatement")) "writer") (some none) && (He.eqO (PySem.W.findIn K (.ref (He.ga K "Wrong")) "place") (some none) && (errPB K "AskError"))))))))))))))))))))))))))))))))))))))))))))))))))))))))
def headTs : List He.Tab := []
abbrev headR : PySem.W.OpenRow := PySem.W.OpenLaw.row PySem.Challenge.rw_askless_k11_errors_kept
abbrev headP : Program := PySem.Challenge.pw_askless_k11_errors_kept
abbrev headK : PySem.W.Hook := hookU headP 6 headFa headFn headTs headEr exB
def headOb (s : PySem.W.SharedT) : AlU := obsU headP 6 headFa headFn headTs headEr exB (HandSHeadRun.getT s)
theorem headOb_eq (s : PySem.W.SharedT) : headOb s = headK.obs s.abs := obsU_eq (HandSHeadRun.getT_eq s)
def headNames0 : List PySem.Str := ["AskError", "Wrong", "BadStatement", "NoWriter", "NoPlace", "TooMany", "NoStep", "Fault", "Freed", "Gone", "Nothing", "NoWalker", "Broken", "BadTarget", "Unknown", "NotBare", "Hopeless", "NotRight", "NoChain", "Unlike", "NotPlain", "NoRead", "NoSwitch", "TooFew", "NoDeed"]
def headNames1 : List PySem.Str := ["Full", "NoEntry", "NoText", "NoCommand", "_law_bag", "_law_take", "_law_alike", "_law_thing", "_law_errors", "_law_kinds", "_law_fields"]
def headNames : List PySem.Str := headNames0 ++ headNames1
theorem headRun (w : World) : HandSHeadRun.RunEq headR (PySem.W.view headR.prog [38]) headK headOb 12000 headNames w := by
  intro os
  kernel_rfl
theorem headLaw {w : World} {K : PySem.W.Frag} {h : Heap} {mg : Str → Option Value} (X : K.In h) (G : h.Ns mainGlobals mg) (c : SaysU headP headFa headFn headTs headEr exB w K) : ReadyB headP w K mg 5 "law" ["_law_script"] 1 f_law := by
  have cd := c.t.d
  have more := c.more
  unfold exB at more
  obtain ⟨x_XALL, more⟩ := He.ba more
  obtain ⟨x_KT_NoCommand, more⟩ := He.ba more
  obtain ⟨x_KT_NoText, more⟩ := He.ba more
  obtain ⟨x_KT_NoEntry, more⟩ := He.ba more
  obtain ⟨x_KT_Full, more⟩ := He.ba more
  obtain ⟨x_KT_NoDeed, more⟩ := He.ba more
  obtain ⟨x_KT_TooFew, more⟩ := He.ba more
  obtain ⟨x_KT_NoSwitch, more⟩ := He.ba more
  obtain ⟨x_KT_NoRead, more⟩ := He.ba more
  obtain ⟨x_KT_NotPlain, more⟩ := He.ba more
  obtain ⟨x_KT_Unlike, more⟩ := He.ba more
  obtain ⟨x_KT_NoChain, more⟩ := He.ba more
  obtain ⟨x_KT_NotRight, more⟩ := He.ba more
  obtain ⟨x_KT_Hopeless, more⟩ := He.ba more
  obtain ⟨x_KT_NotBare, more⟩ := He.ba more
  obtain ⟨x_KT_Unknown, more⟩ := He.ba more
  obtain ⟨x_KT_BadTarget, more⟩ := He.ba more
  obtain ⟨x_KT_Broken, more⟩ := He.ba more
  obtain ⟨x_KT_NoWalker, more⟩ := He.ba more
  obtain ⟨x_KT_Nothing, more⟩ := He.ba more
  obtain ⟨x_KT_Gone, more⟩ := He.ba more
  obtain ⟨x_KT_Freed, more⟩ := He.ba more
  obtain ⟨x_KT_Fault, more⟩ := He.ba more
  obtain ⟨x_KT_NoStep, more⟩ := He.ba more
  obtain ⟨x_KT_TooMany, more⟩ := He.ba more
  obtain ⟨x_KT_NoPlace, more⟩ := He.ba more
  obtain ⟨x_KT_NoWriter, more⟩ := He.ba more
  obtain ⟨x_KT_BadStatement, more⟩ := He.ba more
  obtain ⟨x_KT_Wrong, more⟩ := He.ba more
  obtain ⟨x_KT_ValueError, more⟩ := He.ba more
  obtain ⟨x_KT_AskError, more⟩ := He.ba more
  obtain ⟨x_FV_Fault_name, more⟩ := He.ba more
  obtain ⟨x_FV_NoChain_field, more⟩ := He.ba more
  obtain ⟨x_FV_Fault_address, more⟩ := He.ba more
  obtain ⟨x_FV_BadStatement_address, more⟩ := He.ba more
  obtain ⟨x_FV_NoEntry_many, more⟩ := He.ba more
  obtain ⟨x_FV_Full_limit, more⟩ := He.ba more
  obtain ⟨x_FV_TooFew_many, more⟩ := He.ba more
  obtain ⟨x_FV_NoSwitch_place, more⟩ := He.ba more
  obtain ⟨x_FV_NoRead_at, more⟩ := He.ba more
  obtain ⟨x_FV_NotPlain_which, more⟩ := He.ba more
  obtain ⟨x_FV_NoChain_root, more⟩ := He.ba more
  obtain ⟨x_FV_Hopeless_at, more⟩ := He.ba more
  obtain ⟨x_FV_NotBare_at, more⟩ := He.ba more
  obtain ⟨x_FV_Unknown_name, more⟩ := He.ba more
  obtain ⟨x_FV_BadTarget_place, more⟩ := He.ba more
  obtain ⟨x_FV_Broken_at, more⟩ := He.ba more
  obtain ⟨x_FV_NoWalker_walker, more⟩ := He.ba more
  obtain ⟨x_FV_Gone_walker, more⟩ := He.ba more
  obtain ⟨x_FV_Freed_cell, more⟩ := He.ba more
  obtain ⟨x_FV_Fault_writer, more⟩ := He.ba more
  obtain ⟨x_FV_TooMany_limit, more⟩ := He.ba more
  obtain ⟨x_FV_NoPlace_place, more⟩ := He.ba more
  obtain ⟨x_FV_NoWriter_writer, more⟩ := He.ba more
  obtain ⟨x_FV_BadStatement_writer, more⟩ := He.ba more
  obtain ⟨x_FV_Wrong_place, more⟩ := He.ba more
  have x_EP_AskError := more
  have n_abs : mg "abs" = none := He.free_ok X G (cd.fact 8 rfl)
  have n_int : mg "int" = none := He.free_ok X G (cd.fact 9 rfl)
  have n_len : mg "len" = none := He.free_ok X G (cd.fact 10 rfl)
  have n_repr : mg "repr" = none := He.free_ok X G (cd.fact 11 rfl)
  have n_isinstance : mg "isinstance" = none := He.free_ok X G (cd.fact 12 rfl)
  have n_range : mg "range" = none := He.free_ok X G (cd.fact 13 rfl)
  have n_ValueError : mg "ValueError" = none := He.free_ok X G (cd.fact 14 rfl)
  have n_enumerate : mg "enumerate" = none := He.free_ok X G (cd.fact 15 rfl)
  have n_dict : mg "dict" = none := He.free_ok X G (cd.fact 16 rfl)
  have n_list : mg "list" = none := He.free_ok X G (cd.fact 17 rfl)
  have gl_NoCommand := He.glo_ok X G (x := "NoCommand") (cd.fact 18 rfl)
  have gl_NoText := He.glo_ok X G (x := "NoText") (cd.fact 19 rfl)
  have gl_NoEntry := He.glo_ok X G (x := "NoEntry") (cd.fact 20 rfl)
  have gl_Full := He.glo_ok X G (x := "Full") (cd.fact 21 rfl)
  have gl_NoDeed := He.glo_ok X G (x := "NoDeed") (cd.fact 22 rfl)
  have gl_TooFew := He.glo_ok X G (x := "TooFew") (cd.fact 23 rfl)
  have gl_NoSwitch := He.glo_ok X G (x := "NoSwitch") (cd.fact 24 rfl)
  have gl_NoRead := He.glo_ok X G (x := "NoRead") (cd.fact 25 rfl)
  have gl_NotPlain := He.glo_ok X G (x := "NotPlain") (cd.fact 26 rfl)
  have gl_Unlike := He.glo_ok X G (x := "Unlike") (cd.fact 27 rfl)
  have gl_NoChain := He.glo_ok X G (x := "NoChain") (cd.fact 28 rfl)
  have gl_NotRight := He.glo_ok X G (x := "NotRight") (cd.fact 29 rfl)
  have gl_Hopeless := He.glo_ok X G (x := "Hopeless") (cd.fact 30 rfl)
  have gl_NotBare := He.glo_ok X G (x := "NotBare") (cd.fact 31 rfl)
  have gl_Unknown := He.glo_ok X G (x := "Unknown") (cd.fact 32 rfl)
  have gl_BadTarget := He.glo_ok X G (x := "BadTarget") (cd.fact 33 rfl)
  have gl_Broken := He.glo_ok X G (x := "Broken") (cd.fact 34 rfl)
  have gl_NoWalker := He.glo_ok X G (x := "NoWalker") (cd.fact 35 rfl)
  have gl_Nothing := He.glo_ok X G (x := "Nothing") (cd.fact 36 rfl)
  have gl_Gone := He.glo_ok X G (x := "Gone") (cd.fact 37 rfl)
  have gl_Freed := He.glo_ok X G (x := "Freed") (cd.fact 38 rfl)
  have gl_Fault := He.glo_ok X G (x := "Fault") (cd.fact 39 rfl)
  have gl_NoStep := He.glo_ok X G (x := "NoStep") (cd.fact 40 rfl)
  have gl_TooMany := He.glo_ok X G (x := "TooMany") (cd.fact 41 rfl)
  have gl_NoPlace := He.glo_ok X G (x := "NoPlace") (cd.fact 42 rfl)
  have gl_NoWriter := He.glo_ok X G (x := "NoWriter") (cd.fact 43 rfl)
  have gl_BadStatement := He.glo_ok X G (x := "BadStatement") (cd.fact 44 rfl)
  have gl_Wrong := He.glo_ok X G (x := "Wrong") (cd.fact 45 rfl)
  have gl_AskError := He.glo_ok X G (x := "AskError") (cd.fact 46 rfl)
  have KT_NoCommand := kindT_ok x_XALL x_KT_NoCommand
  have KT_NoText := kindT_ok x_XALL x_KT_NoText
  have KT_NoEntry := kindT_ok x_XALL x_KT_NoEntry
  have KT_Full := kindT_ok x_XALL x_KT_Full
  have KT_NoDeed := kindT_ok x_XALL x_KT_NoDeed
  have KT_TooFew := kindT_ok x_XALL x_KT_TooFew
  have KT_NoSwitch := kindT_ok x_XALL x_KT_NoSwitch
  have KT_NoRead := kindT_ok x_XALL x_KT_NoRead
  have KT_NotPlain := kindT_ok x_XALL x_KT_NotPlain
  have KT_Unlike := kindT_ok x_XALL x_KT_Unlike
  have KT_NoChain := kindT_ok x_XALL x_KT_NoChain
  have KT_NotRight := kindT_ok x_XALL x_KT_NotRight
  have KT_Hopeless := kindT_ok x_XALL x_KT_Hopeless
  have KT_NotBare := kindT_ok x_XALL x_KT_NotBare
  have KT_Unknown := kindT_ok x_XALL x_KT_Unknown
  have KT_BadTarget := kindT_ok x_XALL x_KT_BadTarget
  have KT_Broken := kindT_ok x_XALL x_KT_Broken
  have KT_NoWalker := kindT_ok x_XALL x_KT_NoWalker
  have KT_Nothing := kindT_ok x_XALL x_KT_Nothing
  have KT_Gone := kindT_ok x_XALL x_KT_Gone
  have KT_Freed := kindT_ok x_XALL x_KT_Freed
  have KT_Fault := kindT_ok x_XALL x_KT_Fault
  have KT_NoStep := kindT_ok x_XALL x_KT_NoStep
  have KT_TooMany := kindT_ok x_XALL x_KT_TooMany
  have KT_NoPlace := kindT_ok x_XALL x_KT_NoPlace
  have KT_NoWriter := kindT_ok x_XALL x_KT_NoWriter
  have KT_BadStatement := kindT_ok x_XALL x_KT_BadStatement
  have KT_Wrong := kindT_ok x_XALL x_KT_Wrong
  have KT_ValueError := kindT_ok x_XALL x_KT_ValueError
  have KT_AskError := kindT_ok x_XALL x_KT_AskError
  have FV_Fault_name := fldV_ok x_XALL (by decide) x_FV_Fault_name
  have FV_NoChain_field := fldV_ok x_XALL (by decide) x_FV_NoChain_field
  have FV_Fault_address := fldV_ok x_XALL (by decide) x_FV_Fault_address
  have FV_BadStatement_address := fldV_ok x_XALL (by decide) x_FV_BadStatement_address
  have FV_NoEntry_many := fldV_ok x_XALL (by decide) x_FV_NoEntry_many
  have FV_Full_limit := fldV_ok x_XALL (by decide) x_FV_Full_limit
  have FV_TooFew_many := fldV_ok x_XALL (by decide) x_FV_TooFew_many
  have FV_NoSwitch_place := fldV_ok x_XALL (by decide) x_FV_NoSwitch_place
  have FV_NoRead_at := fldV_ok x_XALL (by decide) x_FV_NoRead_at
  have FV_NotPlain_which := fldV_ok x_XALL (by decide) x_FV_NotPlain_which
  have FV_NoChain_root := fldV_ok x_XALL (by decide) x_FV_NoChain_root
  have FV_Hopeless_at := fldV_ok x_XALL (by decide) x_FV_Hopeless_at
  have FV_NotBare_at := fldV_ok x_XALL (by decide) x_FV_NotBare_at
  have FV_Unknown_name := fldV_ok x_XALL (by decide) x_FV_Unknown_name
  have FV_BadTarget_place := fldV_ok x_XALL (by decide) x_FV_BadTarget_place
  have FV_Broken_at := fldV_ok x_XALL (by decide) x_FV_Broken_at
  have FV_NoWalker_walker := fldV_ok x_XALL (by decide) x_FV_NoWalker_walker
  have FV_Gone_walker := fldV_ok x_XALL (by decide) x_FV_Gone_walker
  have FV_Freed_cell := fldV_ok x_XALL (by decide) x_FV_Freed_cell
  have FV_Fault_writer := fldV_ok x_XALL (by decide) x_FV_Fault_writer
  have FV_TooMany_limit := fldV_ok x_XALL (by decide) x_FV_TooMany_limit
  have FV_NoPlace_place := fldV_ok x_XALL (by decide) x_FV_NoPlace_place
  have FV_NoWriter_writer := fldV_ok x_XALL (by decide) x_FV_NoWriter_writer
  have FV_BadStatement_writer := fldV_ok x_XALL (by decide) x_FV_BadStatement_writer
  have FV_Wrong_place := fldV_ok x_XALL (by decide) x_FV_Wrong_place
  have EP_AskError := errP_ok gl_AskError x_EP_AskError
  have E_Wrong : ErrV headP w K mg "Wrong" ["place"] := err1V (c.err X G 0 (d := e_Wrong) rfl) gl_Wrong rfl ⟨rfl, rfl, rfl, by decide +kernel, by decide +kernel, by decide +kernel, by decide +kernel, rfl, rfl⟩ rfl rfl rfl (fun _ _ _ _ _ _ _ us hl => match us, hl with | [_, _], _ => rfl)
  have E_BadStatement : ErrV headP w K mg "BadStatement" ["writer", "address"] := err2V (c.err X G 1 (d := e_BadStatement) rfl) gl_BadStatement rfl ⟨rfl, rfl, rfl, by decide +kernel, by decide +kernel, by decide +kernel, by decide +kernel, rfl, rfl⟩ rfl rfl rfl (fun _ _ _ _ _ _ _ us hl => match us, hl with | [_, _, _], _ => rfl)
  have E_NoWriter : ErrV headP w K mg "NoWriter" ["writer"] := err1V (c.err X G 2 (d := e_NoWriter) rfl) gl_NoWriter rfl ⟨rfl, rfl, rfl, by decide +kernel, by decide +kernel, by decide +kernel, by decide +kernel, rfl, rfl⟩ rfl rfl rfl (fun _ _ _ _ _ _ _ us hl => match us, hl with | [_, _], _ => rfl)
  have E_NoPlace : ErrV headP w K mg "NoPlace" ["place"] := err1V (c.err X G 3 (d := e_NoPlace) rfl) gl_NoPlace rfl ⟨rfl, rfl, rfl, by decide +kernel, by decide +kernel, by decide +kernel, by decide +kernel, rfl, rfl⟩ rfl rfl rfl (fun _ _ _ _ _ _ _ us hl => match us, hl with | [_, _], _ => rfl)
  have E_TooMany : ErrV headP w K mg "TooMany" ["limit"] := err1V (c.err X G 4 (d := e_TooMany) rfl) gl_TooMany rfl ⟨rfl, rfl, rfl, by decide +kernel, by decide +kernel, by decide +kernel, by decide +kernel, rfl, rfl⟩ rfl rfl rfl (fun _ _ _ _ _ _ _ us hl => match us, hl with | [_, _], _ => rfl)
  have E_NoStep : ErrV headP w K mg "NoStep" [] := err0V (c.err X G 5 (d := e_NoStep) rfl) gl_NoStep ⟨rfl, rfl, rfl, by decide +kernel, by decide +kernel, by decide +kernel, by decide +kernel, rfl, rfl⟩ rfl rfl rfl (fun _ _ _ _ _ _ _ us hl => match us, hl with | [_], _ => rfl)
  have E_Fault : ErrV headP w K mg "Fault" ["writer", "address", "name"] := err3V (c.err X G 6 (d := e_Fault) rfl) gl_Fault rfl ⟨rfl, rfl, rfl, by decide +kernel, by decide +kernel, by decide +kernel, by decide +kernel, rfl, rfl⟩ rfl rfl rfl (fun _ _ _ _ _ _ _ us hl => match us, hl with | [_, _, _, _], _ => rfl)
  have E_Freed : ErrV headP w K mg "Freed" ["cell"] := err1V (c.err X G 7 (d := e_Freed) rfl) gl_Freed rfl ⟨rfl, rfl, rfl, by decide +kernel, by decide +kernel, by decide +kernel, by decide +kernel, rfl, rfl⟩ rfl rfl rfl (fun _ _ _ _ _ _ _ us hl => match us, hl with | [_, _], _ => rfl)
  have E_Gone : ErrV headP w K mg "Gone" ["walker"] := err1V (c.err X G 8 (d := e_Gone) rfl) gl_Gone rfl ⟨rfl, rfl, rfl, by decide +kernel, by decide +kernel, by decide +kernel, by decide +kernel, rfl, rfl⟩ rfl rfl rfl (fun _ _ _ _ _ _ _ us hl => match us, hl with | [_, _], _ => rfl)
  have E_Nothing : ErrV headP w K mg "Nothing" [] := err0V (c.err X G 9 (d := e_Nothing) rfl) gl_Nothing ⟨rfl, rfl, rfl, by decide +kernel, by decide +kernel, by decide +kernel, by decide +kernel, rfl, rfl⟩ rfl rfl rfl (fun _ _ _ _ _ _ _ us hl => match us, hl with | [_], _ => rfl)
  have E_NoWalker : ErrV headP w K mg "NoWalker" ["walker"] := err1V (c.err X G 10 (d := e_NoWalker) rfl) gl_NoWalker rfl ⟨rfl, rfl, rfl, by decide +kernel, by decide +kernel, by decide +kernel, by decide +kernel, rfl, rfl⟩ rfl rfl rfl (fun _ _ _ _ _ _ _ us hl => match us, hl with | [_, _], _ => rfl)
  have E_Broken : ErrV headP w K mg "Broken" ["at"] := err1V (c.err X G 11 (d := e_Broken) rfl) gl_Broken rfl ⟨rfl, rfl, rfl, by decide +kernel, by decide +kernel, by decide +kernel, by decide +kernel, rfl, rfl⟩ rfl rfl rfl (fun _ _ _ _ _ _ _ us hl => match us, hl with | [_, _], _ => rfl)
  have E_BadTarget : ErrV headP w K mg "BadTarget" ["place"] := err1V (c.err X G 12 (d := e_BadTarget) rfl) gl_BadTarget rfl ⟨rfl, rfl, rfl, by decide +kernel, by decide +kernel, by decide +kernel, by decide +kernel, rfl, rfl⟩ rfl rfl rfl (fun _ _ _ _ _ _ _ us hl => match us, hl with | [_, _], _ => rfl)
  have E_Unknown : ErrV headP w K mg "Unknown" ["name"] := err1V (c.err X G 13 (d := e_Unknown) rfl) gl_Unknown rfl ⟨rfl, rfl, rfl, by decide +kernel, by decide +kernel, by decide +kernel, by decide +kernel, rfl, rfl⟩ rfl rfl rfl (fun _ _ _ _ _ _ _ us hl => match us, hl with | [_, _], _ => rfl)
  have E_NotBare : ErrV headP w K mg "NotBare" ["at"] := err1V (c.err X G 14 (d := e_NotBare) rfl) gl_NotBare rfl ⟨rfl, rfl, rfl, by decide +kernel, by decide +kernel, by decide +kernel, by decide +kernel, rfl, rfl⟩ rfl rfl rfl (fun _ _ _ _ _ _ _ us hl => match us, hl with | [_, _], _ => rfl)
  have E_Hopeless : ErrV headP w K mg "Hopeless" ["at"] := err1V (c.err X G 15 (d := e_Hopeless) rfl) gl_Hopeless rfl ⟨rfl, rfl, rfl, by decide +kernel, by decide +kernel, by decide +kernel, by decide +kernel, rfl, rfl⟩ rfl rfl rfl (fun _ _ _ _ _ _ _ us hl => match us, hl with | [_, _], _ => rfl)
  have E_NotRight : ErrV headP w K mg "NotRight" [] := err0V (c.err X G 16 (d := e_NotRight) rfl) gl_NotRight ⟨rfl, rfl, rfl, by decide +kernel, by decide +kernel, by decide +kernel, by decide +kernel, rfl, rfl⟩ rfl rfl rfl (fun _ _ _ _ _ _ _ us hl => match us, hl with | [_], _ => rfl)
  have E_NoChain : ErrV headP w K mg "NoChain" ["root", "field"] := err2V (c.err X G 17 (d := e_NoChain) rfl) gl_NoChain rfl ⟨rfl, rfl, rfl, by decide +kernel, by decide +kernel, by decide +kernel, by decide +kernel, rfl, rfl⟩ rfl rfl rfl (fun _ _ _ _ _ _ _ us hl => match us, hl with | [_, _, _], _ => rfl)
  have E_Unlike : ErrV headP w K mg "Unlike" [] := err0V (c.err X G 18 (d := e_Unlike) rfl) gl_Unlike ⟨rfl, rfl, rfl, by decide +kernel, by decide +kernel, by decide +kernel, by decide +kernel, rfl, rfl⟩ rfl rfl rfl (fun _ _ _ _ _ _ _ us hl => match us, hl with | [_], _ => rfl)
  have E_NotPlain : ErrV headP w K mg "NotPlain" ["which"] := err1V (c.err X G 19 (d := e_NotPlain) rfl) gl_NotPlain rfl ⟨rfl, rfl, rfl, by decide +kernel, by decide +kernel, by decide +kernel, by decide +kernel, rfl, rfl⟩ rfl rfl rfl (fun _ _ _ _ _ _ _ us hl => match us, hl with | [_, _], _ => rfl)
  have E_NoRead : ErrV headP w K mg "NoRead" ["at"] := err1V (c.err X G 20 (d := e_NoRead) rfl) gl_NoRead rfl ⟨rfl, rfl, rfl, by decide +kernel, by decide +kernel, by decide +kernel, by decide +kernel, rfl, rfl⟩ rfl rfl rfl (fun _ _ _ _ _ _ _ us hl => match us, hl with | [_, _], _ => rfl)
  have E_NoSwitch : ErrV headP w K mg "NoSwitch" ["place"] := err1V (c.err X G 21 (d := e_NoSwitch) rfl) gl_NoSwitch rfl ⟨rfl, rfl, rfl, by decide +kernel, by decide +kernel, by decide +kernel, by decide +kernel, rfl, rfl⟩ rfl rfl rfl (fun _ _ _ _ _ _ _ us hl => match us, hl with | [_, _], _ => rfl)
  have E_TooFew : ErrV headP w K mg "TooFew" ["many"] := err1V (c.err X G 22 (d := e_TooFew) rfl) gl_TooFew rfl ⟨rfl, rfl, rfl, by decide +kernel, by decide +kernel, by decide +kernel, by decide +kernel, rfl, rfl⟩ rfl rfl rfl (fun _ _ _ _ _ _ _ us hl => match us, hl with | [_, _], _ => rfl)
  have E_NoDeed : ErrV headP w K mg "NoDeed" [] := err0V (c.err X G 23 (d := e_NoDeed) rfl) gl_NoDeed ⟨rfl, rfl, rfl, by decide +kernel, by decide +kernel, by decide +kernel, by decide +kernel, rfl, rfl⟩ rfl rfl rfl (fun _ _ _ _ _ _ _ us hl => match us, hl with | [_], _ => rfl)
  have E_Full : ErrV headP w K mg "Full" ["limit"] := err1V (c.err X G 24 (d := e_Full) rfl) gl_Full rfl ⟨rfl, rfl, rfl, by decide +kernel, by decide +kernel, by decide +kernel, by decide +kernel, rfl, rfl⟩ rfl rfl rfl (fun _ _ _ _ _ _ _ us hl => match us, hl with | [_, _], _ => rfl)
  have E_NoEntry : ErrV headP w K mg "NoEntry" ["many"] := err1V (c.err X G 25 (d := e_NoEntry) rfl) gl_NoEntry rfl ⟨rfl, rfl, rfl, by decide +kernel, by decide +kernel, by decide +kernel, by decide +kernel, rfl, rfl⟩ rfl rfl rfl (fun _ _ _ _ _ _ _ us hl => match us, hl with | [_, _], _ => rfl)
  have E_NoText : ErrV headP w K mg "NoText" [] := err0V (c.err X G 26 (d := e_NoText) rfl) gl_NoText ⟨rfl, rfl, rfl, by decide +kernel, by decide +kernel, by decide +kernel, by decide +kernel, rfl, rfl⟩ rfl rfl rfl (fun _ _ _ _ _ _ _ us hl => match us, hl with | [_], _ => rfl)
  have E_NoCommand : ErrV headP w K mg "NoCommand" [] := err0V (c.err X G 27 (d := e_NoCommand) rfl) gl_NoCommand ⟨rfl, rfl, rfl, by decide +kernel, by decide +kernel, by decide +kernel, by decide +kernel, rfl, rfl⟩ rfl rfl rfl (fun _ _ _ _ _ _ _ us hl => match us, hl with | [_], _ => rfl)
  have A_l_bag : At K mg "_law_bag" s_l_bag := by
    obtain ⟨fd, F⟩ := cd.def_ 0 (d := h_l_bag) rfl
    exact ⟨_, fd, He5.fun_of F, He.glo_ok X G (x := "_law_bag") (cd.fact 0 rfl)⟩
  have R_l_bag := ok_l_bag (P := headP) (w := w) A_l_bag n_abs
  have A_l_take : At K mg "_law_take" s_l_take := by
    obtain ⟨fd, F⟩ := cd.def_ 1 (d := h_l_take) rfl
    exact ⟨_, fd, He5.fun_of F, He.glo_ok X G (x := "_law_take") (cd.fact 1 rfl)⟩
  have R_l_take := ok_l_take (P := headP) (w := w) A_l_take n_int n_len
  have A_l_alikeE : At K mg "_law_alike" s_l_alikeE := by
    obtain ⟨fd, F⟩ := cd.def_ 2 (d := h_l_alikeE) rfl
    exact ⟨_, fd, He5.fun_of F, He.glo_ok X G (x := "_law_alike") (cd.fact 2 rfl)⟩
  have R_l_alikeE := ok_l_alikeE (P := headP) (w := w) A_l_alikeE n_repr
  have A_l_thing : At K mg "_law_thing" s_l_thing := by
    obtain ⟨fd, F⟩ := cd.def_ 3 (d := h_l_thing) rfl
    exact ⟨_, fd, He5.fun_of F, He.glo_ok X G (x := "_law_thing") (cd.fact 3 rfl)⟩
  have R_l_thing := ok_l_thing (P := headP) (w := w) A_l_thing R_l_take
  have A_l_errors : At K mg "_law_errors" s_l_errors := by
    obtain ⟨fd, F⟩ := cd.def_ 4 (d := h_l_errors) rfl
    exact ⟨_, fd, He5.fun_of F, He.glo_ok X G (x := "_law_errors") (cd.fact 4 rfl)⟩
  have R_l_errors := ok_l_errors (P := headP) (w := w) A_l_errors E_NoCommand E_NoText E_NoEntry E_Full E_NoDeed E_TooFew E_NoSwitch E_NoRead E_NotPlain E_Unlike E_NoChain E_NotRight E_Hopeless E_NotBare E_Unknown E_BadTarget E_Broken E_NoWalker E_Nothing E_Gone E_Freed E_Fault E_NoStep E_TooMany E_NoPlace E_NoWriter E_BadStatement E_Wrong
  have A_l_kinds : At K mg "_law_kinds" s_l_kinds := by
    obtain ⟨fd, F⟩ := cd.def_ 5 (d := h_l_kinds) rfl
    exact ⟨_, fd, He5.fun_of F, He.glo_ok X G (x := "_law_kinds") (cd.fact 5 rfl)⟩
  have R_l_kinds := ok_l_kinds (P := headP) (w := w) A_l_kinds KT_NoCommand gl_NoCommand KT_NoText gl_NoText KT_NoEntry gl_NoEntry KT_Full gl_Full KT_NoDeed gl_NoDeed KT_TooFew gl_TooFew KT_NoSwitch gl_NoSwitch KT_NoRead gl_NoRead KT_NotPlain gl_NotPlain KT_Unlike gl_Unlike KT_NoChain gl_NoChain KT_NotRight gl_NotRight KT_Hopeless gl_Hopeless KT_NotBare gl_NotBare KT_Unknown gl_Unknown KT_BadTarget gl_BadTarget KT_Broken gl_Broken KT_NoWalker gl_NoWalker KT_Nothing gl_Nothing KT_Gone gl_Gone KT_Freed gl_Freed KT_Fault gl_Fault KT_NoStep gl_NoStep KT_TooMany gl_TooMany KT_NoPlace gl_NoPlace KT_NoWriter gl_NoWriter KT_BadStatement gl_BadStatement KT_Wrong gl_Wrong n_isinstance
  have A_l_fields : At K mg "_law_fields" s_l_fields := by
    obtain ⟨fd, F⟩ := cd.def_ 6 (d := h_l_fields) rfl
    exact ⟨_, fd, He5.fun_of F, He.glo_ok X G (x := "_law_fields") (cd.fact 6 rfl)⟩
  have R_l_fields := ok_l_fields (P := headP) (w := w) A_l_fields FV_Fault_name FV_NoChain_field FV_Fault_address FV_BadStatement_address FV_NoEntry_many FV_Full_limit FV_TooFew_many FV_NoSwitch_place FV_NoRead_at FV_NotPlain_which FV_NoChain_root FV_Hopeless_at FV_NotBare_at FV_Unknown_name FV_BadTarget_place FV_Broken_at FV_NoWalker_walker FV_Gone_walker FV_Freed_cell FV_Fault_writer FV_TooMany_limit FV_NoPlace_place FV_NoWriter_writer FV_BadStatement_writer FV_Wrong_place
  have A_law : At K mg "law" s_law := by
    obtain ⟨fd, F⟩ := cd.def_ 7 (d := h_law) rfl
    exact ⟨_, fd, He5.fun_of F, He.glo_ok X G (x := "law") (cd.fact 7 rfl)⟩
  have R_law := ok_law (P := headP) (w := w) A_law EP_AskError KT_ValueError KT_AskError gl_AskError n_range n_isinstance n_ValueError n_enumerate n_dict n_list R_l_kinds R_l_fields R_l_alikeE R_l_errors R_l_thing R_l_bag
  exact R_law
end Ask
open PySem PySem.Spec PySem.W PySem.Challenge PyProof.Rows L2
theorem Ask.lawEnd (law : ∀ ns : List Int, Ask.OK (Ask.f_law [.scr ns] []) fun p => p.1 = .bl true) : PySem.Challenge.rw_askless_k11_errors_kept.Holds := by
  w_on
  o_law
  refine HandSHeadRun.head_any (r := PySem.W.OpenLaw.row PySem.Challenge.rw_askless_k11_errors_kept) (q := PySem.W.view (PySem.W.OpenLaw.row PySem.Challenge.rw_askless_k11_errors_kept).prog [38]) (H := Ask.headK) (ob := Ask.headOb) (M := 12000) (loose := Ask.headNames) (d := HandSHeadRun.topDef (PySem.W.OpenLaw.row PySem.Challenge.rw_askless_k11_errors_kept).prog 38) (kwd := [])
    Ask.headOb_eq (by kernel_rfl) (fun s => by kernel_rfl) Ask.headRun
    (by kernel_rfl) (by kernel_rfl) (by kernel_rfl) (by rfl)
    (by first | assumption | decide +kernel) (by decide +kernel) ⟨rfl, rfl, rfl, rfl, rfl, by decide +kernel⟩ ?hw ?hc
  case hw =>
    w_witness2
  case hc =>
    refine Ask.walk_MB (n := 63) (k := 5) (x := "_law_script") rfl (by decide) (by kernel_rfl) (by kernel_rfl) ⟨rfl, by decide, by decide⟩ ?_
    intro w mg h Y G
    obtain ⟨hsys, K, hK, hs⟩ := Y
    refine ⟨hsys, K, Ask.f_law, hK, Ask.headLaw hK G hs, fun ns _ _ => ?_⟩
    obtain ⟨⟨d, st'⟩, e, q⟩ := law ns
    exact ⟨st', by rw [e]; exact congrArg (fun z => some (z, st')) q⟩

namespace Ask
open PySem PySem.Spec PyProof.Rows L2
/-! ## what comes of own dicts, of instances that are made, of while -/
section
variable {n i : Nat} {ρ : Store} {st : State} {F : Fl} {Q : OX × State → Prop} {QS : Out × State → Prop} {QE : D × State → Prop} {QR : RX × State → Prop} {QA : List D × State → Prop}
theorem ok_dctO {ks : List Str} {a : MA} (h : OK (a ρ st) fun p => QE (.own p.2.length, p.2 ++ [dtag (ks.map .inr) :: p.1])) : OK (mDctO ks a ρ st) QE := by
  unfold mDctO
  exact ok_map.mpr h
theorem ok_setDD {v o k : ME} (h : OK (v ρ st) fun p => OK (o ρ p.2) fun q => OK (k ρ q.2) fun r => ∃ s, setDD r.2 q.1 r.1 p.1 = some s ∧ QS (.next ρ, s)) : OK (sSetDD v o k n ρ st) QS := by
  unfold sSetDD
  simp only [ok_bind, ok_map]
  exact h.mono fun p h => h.mono fun q h => h.mono fun r ⟨s, e, h⟩ => ok_v e h
end
/-! ### own dicts at hand -/
theorem dat_of {st : State} {j : Nat} {ks : List Key} {ds : List D} (h : st[j]? = some (dtag ks :: ds)) : dat st j = some (ks, ds) := by
  unfold dat
  rw [h]
  rfl
theorem setDD_own {st : State} {j : Nat} {ks : List Key} {ds : List D} {k : D} {key : Key} {v : D} (h : st[j]? = some (dtag ks :: ds)) (hk : keyD k = some key) (hf : few ks.length = true := by rfl) : setDD st (.own j) k v = some (st.set j (dtag (putDs ks ds key v).1 :: (putDs ks ds key v).2)) := by
  show (dat st j).bind _ = _
  rw [dat_of h, Option.bind_some, hk, Option.bind_some, if_pos hf]
/-! ### data with dicts and instances at the top -/
end Ask
namespace Ask
open PySem PySem.Spec PyProof.Rows L2
local macro_rules | `(tactic| walk_at "ask") => `(tactic| first | with_reducible refine ok_sq ?_ | with_reducible refine ok_set ?_ | with_reducible refine ok_ret ?_ | with_reducible refine ok_next ?_ | with_reducible refine ok_m2 ?_ | with_reducible refine ok_mN ?_ | with_reducible refine ok_m1 ?_ | with_reducible refine ok_cons ?_ | with_reducible refine ok_nil ?_ | with_reducible refine ok_c ?_ | with_reducible refine ok_call ?_ | with_reducible refine ok_lst ?_ | with_reducible refine ok_tup ?_ | with_reducible refine ok_sl ?_ | with_reducible refine ok_oNone ?_ | with_reducible refine ok_oSome ?_ | with_reducible refine ok_tOf ?_ | with_reducible refine ok_tNot ?_ | with_reducible refine ok_tAnd ?_ | with_reducible refine ok_tOr ?_ | with_reducible refine ok_mAnd ?_ | with_reducible refine ok_mOr ?_ | with_reducible refine ok_mIf ?_ | with_reducible refine ok_chain ?_ | with_reducible refine ok_ifS ?_ | with_reducible refine ok_par ?_ | with_reducible refine ok_par3 ?_ | with_reducible refine ok_asg ?_ | with_reducible refine ok_own ?_ | with_reducible refine ok_iLst ?_ | with_reducible refine ok_iTup ?_ | with_reducible refine ok_iStr ?_ | with_reducible refine ok_forS ?_ | with_reducible refine ok_drop ?_ | with_reducible refine ok_setI ?_ | with_reducible refine ok_notD ?_ | with_reducible refine ok_negI ?_ | with_reducible refine ok_subI ?_ | with_reducible refine ok_addI ?_ | with_reducible refine ok_lenL ?_ | with_reducible refine ok_lenT ?_ | with_reducible refine ok_intI ?_ | with_reducible refine ok_intB ?_ | with_reducible refine ok_listL ?_ | with_reducible refine ok_listT ?_ | with_reducible refine ok_tupleL ?_ | with_reducible refine ok_tupleT ?_ | with_reducible refine ok_ltI ?_ | with_reducible refine ok_leI ?_ | with_reducible refine ok_gtI ?_ | with_reducible refine ok_geI ?_ | with_reducible refine ok_eqI ?_ | with_reducible refine ok_eqS ?_ | with_reducible refine ok_neS ?_ | with_reducible refine ok_neI ?_ | with_reducible refine ok_slT1 ?_ | with_reducible refine ok_slL1 ?_ | with_reducible refine ok_slLm ?_ | with_reducible refine ok_slTm ?_ | with_reducible refine ok_slL ?_ | with_reducible refine ok_slT ?_ | with_reducible refine ok_ixL ?_ | with_reducible refine ok_ixT ?_ | with_reducible refine ok_mLc ?_ | with_reducible refine ok_lcN ?_ | with_reducible refine ok_lcC ?_ | with_reducible refine ok_gName ?_ | with_reducible refine ok_tYes ?_ | with_reducible refine ok_rngO ?_ | with_reducible refine ok_emL ?_ | with_reducible refine ok_emT ?_ | with_reducible refine ok_enL ?_ | with_reducible refine ok_enT ?_ | with_reducible refine ok_seqX ?_ | with_reducible refine ok_ifX ?_ | with_reducible refine ok_nextX ?_ | with_reducible refine ok_raiX ?_ | with_reducible refine ok_fldX ?_ | with_reducible refine ok_upX ?_ | with_reducible refine ok_callX ?_ | with_reducible refine ok_okX ?_ | with_reducible refine ok_meth ?_ | with_reducible refine ok_eqO ?_ | with_reducible refine ok_isOwnY ?_ | with_reducible refine ok_tryX ?_ | with_reducible refine ok_okS ?_ | with_reducible refine ok_dropX ?_ | with_reducible refine ok_isXx ?_ | with_reducible refine ok_iEn ?_ | with_reducible refine ok_iSeq ?_ | with_reducible refine ok_gT2 ?_ | with_reducible refine ok_gT3 ?_ | with_reducible refine ok_mApp ?_ | with_reducible refine ok_listOr ?_ | with_reducible refine ok_dctO ?_ | with_reducible refine ok_newD ?_ | with_reducible refine ok_setDD ?_ | with_reducible refine ok_setF ?_ | with_reducible refine ok_asg2 ?_ | with_reducible refine ok_g2T ?_ | with_reducible refine ok_g2N ?_ | with_reducible refine ok_g2C ?_ | with_reducible refine ok_g2A ?_ | with_reducible refine ok_g2S ?_ | with_reducible refine ok_tIfM ?_ | ((with_reducible refine ok_fldI ?_); refine ⟨_, rfl, ?_⟩) | ((with_reducible refine ok_fldE ?_); refine ⟨_, rfl, ?_⟩) | ((with_reducible refine ok_varE ?_); refine ⟨_, rfl, ?_⟩) | with_reducible refine ex_int ?_ | with_reducible refine ex_bl ?_ | with_reducible refine ex_str ?_ | with_reducible refine ex_lst ?_ | with_reducible refine ex_tup ?_ | with_reducible refine ex_two ?_ | with_reducible refine ex_three ?_ | with_reducible refine if_t ?_ | with_reducible refine if_f ?_ | with_reducible refine if_nt ?_ | with_reducible refine if_nf ?_ | with_reducible refine aft_n ?_ | with_reducible refine aft_r ?_ | with_reducible refine aft_b ?_ | with_reducible refine aft_c ?_ | with_reducible refine fin_r ?_ | with_reducible refine fin_n ?_ | with_reducible refine ex_at0 ?_ | with_reducible refine ex_at1 ?_ | with_reducible refine ex_at2 ?_ | with_reducible refine ex_at3 ?_ | with_reducible refine ex_ok ?_ | with_reducible refine ex_one ?_ | with_reducible refine ex_own ?_ | with_reducible refine ex_ins ?_ | with_reducible refine aftx_n ?_ | with_reducible refine aftx_x ?_ | with_reducible refine aftx_r ?_ | with_reducible refine dropx_o ?_ | with_reducible refine dropx_x ?_ | with_reducible refine trx_o ?_ | with_reducible refine ex_out ?_ | ((with_reducible refine And.intro ?_ ?_); (with_unfolding_all rfl)) | ((with_reducible refine if_dt ?_ ?_); first | decide +kernel | (apply decide_eq_true; omega) | (apply not_t; apply decide_eq_false; omega)) | ((with_reducible refine if_df ?_ ?_); first | decide +kernel | (apply decide_eq_false; omega) | (apply not_f; apply decide_eq_true; omega)) | ((with_reducible refine And.intro ?_ ?_); omega) | ((with_reducible refine ex_last ?_); refine ⟨_, rfl, ?_⟩) | ((with_reducible refine ok_mod ?_ ?_); decide) | dsimp only [List.set_cons_zero, List.set_cons_succ, List.map_cons, List.map_nil, List.length_cons, List.length_nil, Nat.reduceAdd, Nat.reduceSub, List.replicate_succ, List.replicate_zero, List.cons_append, List.nil_append, List.isEmpty_nil, List.isEmpty_cons, List.dropLast, wipeR, Option.isSome_some, Option.isSome_none, rowL_lst, rowL_tup])
local macro_rules | `(tactic| walk_at "asknf") => `(tactic| dsimp only [List.set_cons_zero, List.set_cons_succ, List.map_cons, List.map_nil, List.length_cons, List.length_nil, Nat.reduceAdd, Nat.reduceSub, List.replicate_succ, List.replicate_zero, List.cons_append, List.nil_append, List.isEmpty_nil, List.isEmpty_cons, List.dropLast, wipeR, Option.isSome_some, Option.isSome_none, rowL_lst, rowL_tup])
/-! ## the things that are drawn -/
def kA : List Key := [.inr ("a" : Str)]
def kAB : List Key := [.inr ("a" : Str), .inr ("b" : Str)]
def scs : List D := [.int big39, .str "put", .str "", .bl true, .non, .tup [.int 1, .tup [.int 2]]]
def bss : List (List D) := [[.int 3, .lst [.int 4]], [], [.str "old"]]
def news (c : Nat) : List D := List.replicate c (.str "new")
inductive Thg (st : State) (lo hi c : Nat) : D → D → Prop where
  | sc {d : D} (h : d ∈ scs) : Thg st lo hi c d d
  | int {i : Int} (h0 : -500 ≤ i) (h1 : i ≤ 499) : Thg st lo hi c (.int i) (.int i)
  | lst {j : Nat} {b : List D} (hb : b ∈ bss) (h0 : lo ≤ j) (h1 : j < hi) (h : st[j]? = some (b ++ news c)) : Thg st lo hi c (.own j) (.lst (b ++ news c))
  | dc0 {j : Nat} (hc : c = 0) (h0 : lo ≤ j) (h1 : j < hi) (h : st[j]? = some (dtag kA :: [.int 1])) : Thg st lo hi c (.own j) (.dct kA [.int 1])
  | dc1 {j : Nat} (hc : c ≠ 0) (h0 : lo ≤ j) (h1 : j < hi) (h : st[j]? = some (dtag kAB :: [.int 1, .int 2])) : Thg st lo hi c (.own j) (.dct kAB [.int 1, .int 2])
theorem Thg.keep {st st' : State} {lo hi c : Nat} {t d : D} (h : Thg st lo hi c t d) (k : ∀ j, lo ≤ j → j < hi → st'[j]? = st[j]?) : Thg st' lo hi c t d := by
  cases h with
  | sc h => exact .sc h
  | int h0 h1 => exact .int h0 h1
  | lst hb h0 h1 h => exact .lst hb h0 h1 (by rw [k _ h0 h1]; exact h)
  | dc0 hc h0 h1 h => exact .dc0 hc h0 h1 (by rw [k _ h0 h1]; exact h)
  | dc1 hc h0 h1 h => exact .dc1 hc h0 h1 (by rw [k _ h0 h1]; exact h)
def es4 : State := [[D.int 3, .lst [.int 4]], [dtag kA, .int 1], [], [.str "old"]]
theorem st4 {rest : State} : rest ++ [[D.int 3, .lst [.int 4]]] ++ [[dtag kA, .int 1]] ++ [[]] ++ [[.str "old"]] = rest ++ es4 := by
  simp [es4]
theorem get4 {b : List D} {rest : State} (k : Nat) : (b :: (rest ++ es4))[rest.length + k + 1]? = es4[k]? := by
  rw [List.getElem?_cons_succ, List.getElem?_append_right (by omega)]
  congr 1
  omega
theorem thing_ok {b : List D} {rest : State} (hb : BagD b) : OK (f_l_thing [.own 0] (b :: rest)) fun p => ∃ b' es t d, p = (t, b' :: (rest ++ es)) ∧ es.length = 4 ∧ BagD b' ∧ Thg (b' :: (rest ++ es)) (rest.length + 1) (rest.length + 5) 0 t d := by
  unfold f_l_thing
  with_reducible (first | refine ok_f1 ?_ | refine ok_f2 ?_ | refine ok_f3 ?_ | refine ok_f4 ?_)
  unfold b_l_thing
  walk_at "asknf"
  repeat (first | ((with_reducible refine ok_takeE ?_ ?_); rfl) | walk_at "ask")
  refine ⟨_, _, _, rfl, by decide, by decide, hb, fun d1 b1 h0 h1 hb1 => ?_⟩
  repeat (first | with_reducible refine ok_v pow39 ?_ | refine ok_own ?_ | refine ok_dctO ?_ | ((with_reducible refine ok_takeE ?_ ?_); rfl) | walk_at "ask")
  refine ⟨_, _, _, rfl, by decide, by decide, hb1, fun d2 b2 h2 h3 hb2 => ?_⟩
  repeat (first | walk_at "ask")
  have fin : ∀ {t d : D}, Thg (b2 :: (rest ++ es4)) (rest.length + 1) (rest.length + 5) 0 t d → ∃ b' es t' d', (t, b2 :: (rest ++ [[D.int 3, .lst [.int 4]]] ++ [[dtag kA, .int 1]] ++ [[]] ++ [[.str "old"]])) = (t', b' :: (rest ++ es)) ∧ es.length = 4 ∧ BagD b' ∧ Thg (b' :: (rest ++ es)) (rest.length + 1) (rest.length + 5) 0 t' d' :=
    fun h => ⟨b2, es4, _, _, by rw [st4], rfl, hb2, h⟩
  have hd : d2 = 0 ∨ d2 = 1 ∨ d2 = 2 ∨ d2 = 3 ∨ d2 = 4 ∨ d2 = 5 ∨ d2 = 6 ∨ d2 = 7 ∨ d2 = 8 ∨ d2 = 9 ∨ d2 = 10 := by omega
  rcases hd with rfl | rfl | rfl | rfl | rfl | rfl | rfl | rfl | rfl | rfl | rfl
  · exact ⟨_, rfl, fin (.int (by omega) (by omega))⟩
  · exact ⟨_, rfl, fin (.sc (by simp [scs]))⟩
  · exact ⟨_, rfl, fin (.sc (by simp [scs]))⟩
  · exact ⟨_, rfl, fin (.sc (by simp [scs]))⟩
  · exact ⟨_, rfl, fin (.sc (by simp [scs]))⟩
  · exact ⟨_, rfl, fin (.sc (by simp [scs]))⟩
  · exact ⟨_, rfl, fin (.sc (by simp [scs]))⟩
  · exact ⟨_, rfl, fin (.lst (b := [.int 3, .lst [.int 4]]) (by simp [bss]) (by omega) (by omega) (get4 0))⟩
  · exact ⟨_, rfl, fin (.dc0 rfl (by simp) (by simp) (by simp only [List.length_append]; exact get4 1))⟩
  · exact ⟨_, rfl, fin (.lst (b := []) (by simp [bss]) (by simp) (by simp) (by simp only [List.length_append]; exact get4 2))⟩
  · exact ⟨_, rfl, fin (.lst (b := [.str "old"]) (by simp [bss]) (by simp) (by simp) (by simp only [List.length_append]; exact get4 3))⟩
/-! ## the errors -/
def k28 : List String := ["Wrong", "BadStatement", "NoWriter", "NoPlace", "TooMany", "NoStep", "Fault", "Freed", "Gone", "Nothing", "NoWalker", "Broken", "BadTarget", "Unknown", "NotBare", "Hopeless", "NotRight", "NoChain", "Unlike", "NotPlain", "NoRead", "NoSwitch", "TooFew", "NoDeed", "Full", "NoEntry", "NoText", "NoCommand"]
def errs (a b c : D) : List D := [.exv "Wrong" ["place"] [a], .exv "BadStatement" ["address", "writer"] [b, a], .exv "NoWriter" ["writer"] [a], .exv "NoPlace" ["place"] [a], .exv "TooMany" ["limit"] [a], .exv "NoStep" [] [],
  .exv "Fault" ["name", "address", "writer"] [c, b, a], .exv "Freed" ["cell"] [a], .exv "Gone" ["walker"] [a], .exv "Nothing" [] [], .exv "NoWalker" ["walker"] [a], .exv "Broken" ["at"] [a],
  .exv "BadTarget" ["place"] [a], .exv "Unknown" ["name"] [a], .exv "NotBare" ["at"] [a], .exv "Hopeless" ["at"] [a], .exv "NotRight" [] [], .exv "NoChain" ["field", "root"] [b, a],
  .exv "Unlike" [] [], .exv "NotPlain" ["which"] [a], .exv "NoRead" ["at"] [a], .exv "NoSwitch" ["place"] [a], .exv "TooFew" ["many"] [a], .exv "NoDeed" [] [], .exv "Full" ["limit"] [a], .exv "NoEntry" ["many"] [a], .exv "NoText" [] [], .exv "NoCommand" [] []]
theorem errors_ok {st : State} {a b c : D} : f_l_errors [a, b, c] st = some (.lst (errs a b c), st) := by
  with_unfolding_all rfl
def flds (a b c : D) : D := .tup [.lst (List.replicate 21 a), .lst (List.replicate 3 b), .lst [c]]
theorem fields_ok {st : State} {a b c : D} : f_l_fields [.lst (errs a b c)] st = some (flds a b c, st) := by
  with_unfolding_all rfl
theorem kinds_ok {st : State} {E : String} {ks : List Str} {ds : List D} (h : knd.contains E = true) : f_l_kinds [.exv E ks ds] st = some (.lst (k28.map fun C => .bl (E == C)), st) := by
  have e : ∀ C, isK knd C false st (.exv E ks ds) = some (.bl (E == C)) := fun C => by
    unfold isK
    dsimp only
    rw [if_pos h, Bool.or_false]
  refine eq_of_ok ?_
  unfold f_l_kinds
  with_reducible (first | refine ok_f1 ?_ | refine ok_f2 ?_ | refine ok_f3 ?_ | refine ok_f4 ?_)
  unfold b_l_kinds
  walk_at "asknf"
  repeat (first | with_reducible refine ok_v (e _) ?_ | with_reducible refine ok_v (add_lst (by simp)) ?_ | walk_at "ask")
  trace_state
  rfl
/-! ## what is seen of things -/
theorem rzs_map' (n : Nat) (st : State) : ∀ ds : List D, D.rzs n st ds = ds.map (D.rz n st)
  | [] => by simp only [D.rzs, List.map_nil]
  | d :: ds => by simp only [D.rzs, List.map_cons, rzs_map' n st ds]
theorem rzK_tup (n : Nat) (st : State) : ∀ (k : Nat) (ds : List D), rzK n st k (.tup ds) = .tup (ds.map (rzK n st k))
  | 0, ds => by
    show D.tup ds = .tup (ds.map fun d => d)
    rw [List.map_id']
  | k + 1, ds => by
    show rzK n st k ((D.tup ds).rz n st) = _
    simp only [D.rz]
    rw [rzs_map', rzK_tup n st k, List.map_map]
    rfl
theorem rzK_lst (n : Nat) (st : State) : ∀ (k : Nat) (ds : List D), rzK n st k (.lst ds) = .lst (ds.map (rzK n st k))
  | 0, ds => by
    show D.lst ds = .lst (ds.map fun d => d)
    rw [List.map_id']
  | k + 1, ds => by
    show rzK n st k ((D.lst ds).rz n st) = _
    simp only [D.rz]
    rw [rzs_map', rzK_lst n st k, List.map_map]
    rfl
theorem rzK_self {n : Nat} {st : State} {d : D} (h : d.rz n st = d) : ∀ k, rzK n st k d = d
  | 0 => rfl
  | k + 1 => by
    show rzK n st k (d.rz n st) = d
    rw [h, rzK_self h k]
/-- data of a thing: small, without own things -/
structure Tb (d : D) : Prop where
  rz : ∀ n st, d.rz n st = d
  low : d.low 0 = true
  fid : d.fid = true
  sh : d.pd.showable = true
  lf : d.pd.leavesShort 600 = true
  dp : d.pd.depth ≤ 5
  bk : d.pd.bulk ≤ 100
theorem bs_tb (c : Nat) (hc : c ≤ 2) {b : List D} (hb : b ∈ bss) : Tb (.lst (b ++ news c)) ∧ nt (b ++ news c) = true := by
  have h3 : c = 0 ∨ c = 1 ∨ c = 2 := by omega
  simp only [bss, List.mem_cons, List.not_mem_nil, or_false] at hb
  rcases h3 with rfl | rfl | rfl <;> rcases hb with rfl | rfl | rfl <;> exact ⟨⟨fun _ _ => by simp only [news, List.replicate, List.append, List.append_eq, List.cons_append, List.nil_append, D.rz, D.rzs], by decide +kernel, by decide +kernel, by decide +kernel, by decide +kernel, by decide +kernel, by decide +kernel⟩, by decide +kernel⟩
theorem sc_tb {d : D} (h : d ∈ scs) : Tb d := by
  simp only [scs, List.mem_cons, List.not_mem_nil, or_false] at h
  rcases h with rfl | rfl | rfl | rfl | rfl | rfl <;> exact ⟨fun _ _ => by simp only [D.rz, D.rzs], by decide +kernel, by decide +kernel, by decide +kernel, by decide +kernel, by decide +kernel, by decide +kernel⟩
theorem int_tb {i : Int} (h0 : -500 ≤ i) (h1 : i ≤ 499) : Tb (.int i) := by
  have all : ((List.range 1000).all fun k => (D.int ((k : Int) - 500)).pd.showable && (D.int ((k : Int) - 500)).pd.leavesShort 600) = true := by decide +kernel
  obtain ⟨k, hk, rfl⟩ : ∃ k : Nat, k < 1000 ∧ i = (k : Int) - 500 := ⟨(i + 500).toNat, by omega, by omega⟩
  have := List.all_eq_true.mp all k (List.mem_range.mpr hk)
  rw [Bool.and_eq_true] at this
  exact ⟨fun _ _ => by simp only [D.rz], rfl, rfl, this.1, this.2, Nat.zero_le _, Nat.zero_le _⟩
theorem dA_tb : Tb (.dct kA [.int 1]) := ⟨fun _ _ => by simp only [D.rz, D.rzs], by decide +kernel, by decide +kernel, by decide +kernel, by decide +kernel, by decide +kernel, by decide +kernel⟩
theorem dAB_tb : Tb (.dct kAB [.int 1, .int 2]) := ⟨fun _ _ => by simp only [D.rz, D.rzs], by decide +kernel, by decide +kernel, by decide +kernel, by decide +kernel, by decide +kernel, by decide +kernel⟩
theorem Thg.tb {st : State} {lo hi c : Nat} {t d : D} (hc : c ≤ 2) (h : Thg st lo hi c t d) : Tb d ∧ rzK 0 st 24 t = d ∧ sameN 6 t t = true := by
  have fin : ∀ {d : D}, Tb d → sameN 6 d d = true → Tb d ∧ rzK 0 st 24 d = d ∧ sameN 6 d d = true := fun h s => ⟨h, rzK_self (h.rz 0 st) 24, s⟩
  have own : ∀ {j : Nat} {ts : List D}, st[j]? = some ts → Tb (viewL ts) → Tb (viewL ts) ∧ rzK 0 st 24 (.own j) = viewL ts ∧ sameN 6 (.own j) (.own j) = true := fun {j ts} h tb => by
    refine ⟨tb, ?_, by simp [sameN]⟩
    show rzK 0 st 23 ((D.own j).rz 0 st) = _
    have e : (D.own j).rz 0 st = viewL ts := by
      simp only [D.rz, h]
      rw [if_neg (by omega)]
    rw [e]
    exact rzK_self (tb.rz 0 st) 23
  cases h with
  | sc h =>
    refine fin (sc_tb h) ?_
    simp only [scs, List.mem_cons, List.not_mem_nil, or_false] at h
    rcases h with rfl | rfl | rfl | rfl | rfl | rfl <;> decide +kernel
  | int h0 h1 => exact fin (int_tb h0 h1) (by simp [sameN])
  | lst hb h0 h1 h =>
    obtain ⟨tb, n⟩ := bs_tb c hc hb
    have := own h (by rw [viewL_nt n]; exact tb)
    rwa [viewL_nt n] at this
  | dc0 _ h0 h1 h => exact own h dA_tb
  | dc1 _ h0 h1 h => exact own h dAB_tb
theorem flds_show {a b c : D} (ha : Tb a) (hb : Tb b) (hc : Tb c) : showB (flds a b c) = true ∧ (flds a b c).low 0 = true := by
  obtain ⟨_, a2, a3, a4, a5, a6, a7⟩ := ha
  obtain ⟨_, b2, b3, b4, b5, b6, b7⟩ := hb
  obtain ⟨_, c2, c3, c4, c5, c6, c7⟩ := hc
  refine ⟨?_, by simp only [flds, List.replicate, D.low, D.lows, a2, b2, c2, Bool.and_self]⟩
  unfold showB
  simp only [flds, List.replicate, D.fid, D.fids, D.pd, D.pds, PyData.showable, PyData.showableAll, PyData.leavesShort, PyData.leavesShortAll, PyData.depth, PyData.depthAll, PyData.bulk, PyData.bulkAll, a3, a4, a5, b3, b4, b5, c3, c4, c5, Bool.and_self, Bool.true_and, Bool.and_eq_true, decide_eq_true_eq]
  omega
theorem sames_rep {n : Nat} {a : D} (h : sameN n a a = true) : ∀ k, sameNs n (List.replicate k a) (List.replicate k a) = true
  | 0 => by simp [sameNs]
  | k + 1 => by simp [List.replicate_succ, sameNs, h, sames_rep h k]
theorem alikeE_ok {st : State} {lo hi lo2 hi2 lo3 hi3 c1 c2 c3 : Nat} {a b c a' b' c' : D} (h1 : c1 ≤ 2) (h2 : c2 ≤ 2) (h3 : c3 ≤ 2) (ha : Thg st lo hi c1 a a') (hb : Thg st lo2 hi2 c2 b b') (hc : Thg st lo3 hi3 c3 c c') : f_l_alikeE [flds a b c, flds a b c] st = some (.bl true, st) := by
  obtain ⟨ta, ra, sa⟩ := ha.tb h1
  obtain ⟨tb, rb, sb⟩ := hb.tb h2
  obtain ⟨tc, rc, sc⟩ := hc.tb h3
  have hs : eqSm st (flds a b c) (flds a b c) = some (.bl true) := by
    unfold eqSm
    rw [if_pos]
    have z1 := sames_rep (n := 6) sa 21
    have z2 := sames_rep (n := 6) sb 3
    simp only [flds, topQ, sameN, sameNs, z1, z2, sc, Bool.and_self]
  have hr : rzK 0 st 24 (flds a b c) = flds a' b' c' := by
    unfold flds
    rw [rzK_tup, List.map_cons, List.map_cons, List.map_cons, List.map_nil, rzK_lst, rzK_lst, rzK_lst, List.map_replicate, List.map_replicate, List.map_cons, List.map_nil, ra, rb, rc]
  obtain ⟨hsh, hlo⟩ := flds_show ta tb tc
  have hp : reprP [] [flds a' b' c'] = some (.str (flds a' b' c').pd.shown) := by
    show (if showB (flds a' b' c') = true then some (D.str (flds a' b' c').pd.shown) else none) = _
    rw [if_pos hsh]
  refine eq_of_ok ?_
  unfold f_l_alikeE
  with_reducible (first | refine ok_f1 ?_ | refine ok_f2 ?_ | refine ok_f3 ?_ | refine ok_f4 ?_)
  unfold b_l_alikeE
  walk_at "asknf"
  repeat (first | with_reducible refine ok_v hs ?_ | walk_at "ask")
  refine ok_fzD (ok_mN (ok_cons (kvarD rfl hr hlo (ok_nil (ok_v hp ⟨rfl, ?_⟩)))))
  refine ok_fzD (ok_mN (ok_cons (kvarD rfl hr hlo (ok_nil (ok_v hp ⟨rfl, ?_⟩)))))
  generalize (flds a' b' c').pd.shown = x
  repeat (first | walk_at "ask")
  exact pr_bl (decide_eq_true rfl)
/-! ## things are changed -/
def isL : D → Bool
  | .lst _ => true
  | _ => false
def isDc : D → Bool
  | .dct _ _ => true
  | _ => false
theorem Thg.isd {st : State} {lo hi c : Nat} {t d : D} (h : Thg st lo hi c t d) (hc : c ≤ 2) : isD st [t, .ty "list"] = some (.bl (isL d)) ∧ isD st [t, .ty "dict"] = some (.bl (isDc d)) := by
  have ow : ∀ {j : Nat} {ts : List D} {S : String}, st[j]? = some ts → (match kindL ts with | .lst => some "list" | .dct _ => some "dict" | .ins _ _ => none) = some S → tyS st (.own j) = some S := fun {j ts S} h e => by
    show (st[j]?).bind _ = _
    rw [h]
    exact e
  have fin : ∀ {t : D} {S : String} {x y : Bool}, tyS st t = some S → kitB S "list" = some x → kitB S "dict" = some y → isD st [t, .ty "list"] = some (.bl x) ∧ isD st [t, .ty "dict"] = some (.bl y) := fun {t S x y} h1 h2 h3 => by
    constructor
    · show (tyS st t).bind _ = _
      rw [h1, Option.bind_some, h2]
      rfl
    · show (tyS st t).bind _ = _
      rw [h1, Option.bind_some, h3]
      rfl
  cases h with
  | sc h =>
    simp only [scs, List.mem_cons, List.not_mem_nil, or_false] at h
    rcases h with rfl | rfl | rfl | rfl | rfl | rfl <;> exact fin (tyS_of (by rfl)) (by decide +kernel) (by decide +kernel)
  | int _ _ => exact fin (S := "int") (tyS_of (by rfl)) (by exact (show kitB "int" "list" = some false by decide +kernel)) (by exact (show kitB "int" "dict" = some false by decide +kernel))
  | lst hb _ _ h => exact fin (S := "list") (ow h (by rw [(nt_kind (bs_tb c hc hb).2).1])) (by exact (show kitB "list" "list" = some true by decide +kernel)) (by exact (show kitB "list" "dict" = some false by decide +kernel))
  | dc0 _ _ _ h => exact fin (S := "dict") (ow h rfl) (by exact (show kitB "dict" "list" = some false by decide +kernel)) (by exact (show kitB "dict" "dict" = some true by decide +kernel))
  | dc1 _ _ _ h => exact fin (S := "dict") (ow h rfl) (by exact (show kitB "dict" "list" = some false by decide +kernel)) (by exact (show kitB "dict" "dict" = some true by decide +kernel))
theorem set_other {st : State} {i j : Nat} {x : List D} (h : i ≠ j) : (st.set i x)[j]? = st[j]? := List.getElem?_set_ne h
/-- one thing is changed -/
theorem grown_ok {t d : D} {n lo hi c : Nat} {st : State} {x0 x1 x2 x3 x4 x5 x6 x7 x9 x10 x11 : Option D} (h : Thg st lo hi c t d) (hc : c ≤ 1) (hh : hi ≤ st.length) :
    OK ((sSeq (sIf (tOf (mN isD (aCons (mVar 8) (aCons (mC (.ty "list")) aNil)))) (sDrop (mApp (mVar 8) (mC (.str "new")))) sNext)
  (sIf (tOf (mN isD (aCons (mVar 8) (aCons (mC (.ty "dict")) aNil)))) (sSetDD (mC (.int 2)) (mVar 8) (mC (.str "b"))) sNext)) n [x0, x1, x2, x3, x4, x5, x6, x7, some t, x9, x10, x11] st) fun q => ∃ st' d', q = (.next [x0, x1, x2, x3, x4, x5, x6, x7, some t, x9, x10, x11], st') ∧ Thg st' lo hi (c + 1) t d' ∧ st'.length = st.length ∧ ∀ j, (j < lo ∨ hi ≤ j) → st'[j]? = st[j]? := by
  obtain ⟨e1, e2⟩ := h.isd (by omega)
  cases h with
  | @sc d h =>
    have : isL t = false ∧ isDc t = false := by
      simp only [scs, List.mem_cons, List.not_mem_nil, or_false] at h
      rcases h with rfl | rfl | rfl | rfl | rfl | rfl <;> exact ⟨rfl, rfl⟩
    rw [this.1] at e1
    rw [this.2] at e2
    repeat (first | with_reducible refine ok_v e1 ?_ | with_reducible refine ok_v e2 ?_ | walk_at "ask")
    exact ⟨_, _, rfl, .sc h, rfl, fun _ _ => rfl⟩
  | @int i h0 h1 =>
    have e1 : isD st [.int i, .ty "list"] = some (.bl false) := e1
    have e2 : isD st [.int i, .ty "dict"] = some (.bl false) := e2
    repeat (first | with_reducible refine ok_v e1 ?_ | with_reducible refine ok_v e2 ?_ | walk_at "ask")
    exact ⟨_, _, rfl, .int h0 h1, rfl, fun _ _ => rfl⟩
  | @lst j b hb h0 h1 h =>
    have hn := (bs_tb c (by omega) hb).2
    have e3 : isD (st.set j (b ++ news c ++ [.str "new"])) [.own j, .ty "dict"] = some (.bl false) := by
      have hn1 := (bs_tb (c + 1) (by omega) hb).2
      have en : b ++ news c ++ [.str "new"] = b ++ news (c + 1) := by
        unfold news
        rw [List.append_assoc, ← List.replicate_succ']
      rw [en]
      refine ((Thg.lst (st := st.set j (b ++ news (c + 1))) (lo := j) (hi := j + 1) (c := c + 1) hb (by omega) (by omega) ?_).isd (by omega)).2
      rw [List.getElem?_set_self (by omega)]
    have e1 : isD st [.own j, .ty "list"] = some (.bl true) := e1
    repeat (first | with_reducible refine ok_v e1 ?_ | refine ok_mApp ?_ | refine ex_own ?_ | walk_at "ask")
    refine ⟨by rw [lat_iff.mpr ⟨h, hn⟩]; rfl, ?_⟩
    repeat (first | walk_at "ask")
    refine ⟨_, lat_iff.mpr ⟨h, hn⟩, ?_⟩
    have hf : few (b ++ news c).length = true := by
      simp only [bss, List.mem_cons, List.not_mem_nil, or_false] at hb
      have : c = 0 ∨ c = 1 := by omega
      rcases this with rfl | rfl <;> rcases hb with rfl | rfl | rfl <;> decide +kernel
    refine ⟨hf, ?_⟩
    repeat (first | with_reducible refine ok_v e3 ?_ | walk_at "ask")
    have en : b ++ news c ++ [.str "new"] = b ++ news (c + 1) := by
      unfold news
      rw [List.append_assoc, ← List.replicate_succ']
    exact ⟨_, _, rfl, .lst hb h0 h1 (by rw [List.getElem?_set_self (by omega), en]), List.length_set, fun i hi => set_other (by omega)⟩
  | @dc0 j hc0 h0 h1 h =>
    have e1 : isD st [.own j, .ty "list"] = some (.bl false) := e1
    have e2 : isD st [.own j, .ty "dict"] = some (.bl true) := e2
    repeat (first | with_reducible refine ok_v e1 ?_ | with_reducible refine ok_v e2 ?_ | walk_at "ask")
    refine ⟨_, setDD_own h rfl rfl, ?_⟩
    repeat (first | walk_at "ask")
    refine ⟨_, _, rfl, .dc1 (by omega) h0 h1 (by rw [List.getElem?_set_self (by omega)]; rfl), List.length_set, fun i hi => set_other (by omega)⟩
  | @dc1 j hc0 h0 h1 h =>
    have e1 : isD st [.own j, .ty "list"] = some (.bl false) := e1
    have e2 : isD st [.own j, .ty "dict"] = some (.bl true) := e2
    repeat (first | with_reducible refine ok_v e1 ?_ | with_reducible refine ok_v e2 ?_ | walk_at "ask")
    refine ⟨_, setDD_own h rfl rfl, ?_⟩
    repeat (first | walk_at "ask")
    refine ⟨_, _, rfl, .dc1 (by omega) h0 h1 (by rw [List.getElem?_set_self (by omega)]; rfl), List.length_set, fun i hi => set_other (by omega)⟩
theorem row28 : ∀ i : _root_.Fin 28, (k28.map fun C => k28[i.1]'i.2 == C) = (List.range 28).map fun (k : Nat) => decide ((k : Int) = (i.1 : Int)) := by decide +kernel
theorem errs_at {a b c z : D} {i : Nat} (h : (errs a b c)[i]? = some z) : ∃ (hi : i < 28) (ks : List Str) (ds : List D), z = .exv (k28[i]'hi) ks ds := by
  have hl : (errs a b c).length = 28 := rfl
  have hi : i < 28 := by rw [← hl]; exact (List.getElem?_eq_some_iff.mp h).1
  have h2 : ∀ d ∈ errs a b c, ∃ E ks ds, d = .exv E ks ds := by simp [errs]
  obtain ⟨E, ks, ds, rfl⟩ := h2 z (List.mem_of_getElem? h)
  refine ⟨hi, ks, ds, ?_⟩
  have h1 : (errs a b c).map (fun d => match d with | .exv E _ _ => E | _ => "") = k28 := rfl
  have h3 := congrArg (fun l : List String => l[i]?) h1
  simp only [List.getElem?_map, h, Option.map_some] at h3
  rw [List.getElem?_eq_getElem (by exact hi)] at h3
  rw [Option.some.inj h3]
theorem knd_28 : ∀ i : _root_.Fin 28, knd.contains (k28[i.1]'i.2) = true := by decide +kernel
theorem ask_row : (k28.map fun C => D.bl ("AskError" == C)) = List.replicate 28 (.bl false) := by
  have : (k28.map fun C => "AskError" == C) = List.replicate 28 false := by decide +kernel
  rw [show (k28.map fun C => D.bl ("AskError" == C)) = (k28.map fun C => "AskError" == C).map D.bl by rw [List.map_map]; rfl, this]
  rfl
theorem in_row {st : State} : inD st (.bl true) (.lst (List.replicate 28 (.bl false))) = some (.bl false) := by
  with_unfolding_all rfl
theorem good28 : ∀ i : _root_.Fin 28, (D.lst ((List.range 28).map fun (k : Nat) => D.bl (decide ((k : Int) = (i.1 : Int))))).good = true := by decide +kernel
theorem neA_lst {st : State} {xs : List D} (h : (D.lst xs).good = true) : neA st (.lst xs) (.lst xs) = some (.bl false) := by
  show neD st _ _ = _
  unfold neD
  rw [fine_plain _ (good_fine h).1, shaped_good h, SeqAt.eqv_refl _ (fine_lay _ (good_fine h).1)]
  rfl
/-- one error is of its class alone -/
theorem kind_ok {n i : Nat} {st : State} {z : D} {x0 x1 x2 x3 x4 x5 x6 x7 x8 x11 : Option D} {a b c : D} (h : (errs a b c)[i]? = some z) : OK ((sSeq (sIf (tOf (m2 neA (mCallN 1 f_l_kinds (aCons (mVar 10) aNil)) (mLc (iRngM (mC (.int 28))) [11] (gNameM 11) tYesM (m2 eqA (mVar 11) (mVar 9))))) (sRet (mC (.bl false))) sNext)
  (sIf (tOrM (tNotM (tOf (m1 (isK knd "AskError" true) (mVar 10)))) (tNotM (tOf (m1 (isK knd "ValueError" true) (mVar 10))))) (sRet (mC (.bl false))) sNext)) n [x0, x1, x2, x3, x4, x5, x6, x7, x8, some (.int (i : Nat)), some z, x11] st) fun q => ∃ y, q = (.next [x0, x1, x2, x3, x4, x5, x6, x7, x8, some (.int (i : Nat)), some z, y], st) := by
  obtain ⟨hi, ks, ds, rfl⟩ := errs_at h
  have hk := kinds_ok (st := st) (ks := ks) (ds := ds) (knd_28 ⟨i, hi⟩)
  have er : (k28.map fun C => D.bl (k28[i]'hi == C)) = (List.range 28).map fun (k : Nat) => D.bl (decide ((k : Int) = (i : Int))) := by
    have := congrArg (List.map D.bl) (row28 ⟨i, hi⟩)
    rw [List.map_map, List.map_map] at this
    exact this
  have eA : ∀ C, isK knd C true st (.exv (k28[i]'hi) ks ds) = some (.bl true) := fun C => by
    unfold isK
    dsimp only
    rw [if_pos (knd_28 ⟨i, hi⟩), Bool.or_true]
  repeat (first | with_reducible refine ok_v hk ?_ | walk_at "ask")
  have hlc : lcM (gNameM 11) tYesM (m2 eqA (mVar 11) (mVar 9)) [x0, x1, x2, x3, x4, x5, x6, x7, x8, some (.int (i : Nat)), some (.exv (k28[i]'hi) ks ds), none] (upTo (Int.toNat 28)) st = some ((List.range 28).map fun (k : Nat) => D.bl (decide ((k : Int) = (i : Int))), st) := by
    have := lc_pure (i := 11) (t := tYesM) (e := m2 eqA (mVar 11) (mVar 9)) (ρ := [x0, x1, x2, x3, x4, x5, x6, x7, x8, some (.int (i : Nat)), some (.exv (k28[i]'hi) ks ds), none]) (st := st) (pt := fun _ => true) (pe := fun d => .bl (match d with | .int k => decide (k = (i : Int)) | _ => false)) (upTo (Int.toNat 28)) (fun d hd => rfl) (fun d hd _ => by
      obtain ⟨k, _, rfl⟩ := mem_upTo hd
      show ((eqA st (.int (k : Int)) (.int (i : Int))).map fun z => (z, st)) = _
      rw [eqA_int]
      rfl)
    rw [this, List.filter_eq_self.mpr fun _ _ => rfl]
    unfold upTo
    rw [List.map_map]
    rfl
  repeat (first | with_reducible refine ok_v hlc ?_ | walk_at "ask")
  rw [er]
  repeat (first | with_reducible refine ok_v (neA_lst (good28 ⟨i, hi⟩)) ?_ | with_reducible refine ok_v (eA _) ?_ | walk_at "ask")
  exact ⟨_, rfl⟩
/-! ## the law -/
theorem for_cons {g : MG} {b : MS} {n : Nat} {d : D} {ds : List D} {ρ : Store} {st : State} {QS : Out × State → Prop} (h : OK (g d ρ) fun ρ2 => OK (b n ρ2 st) fun p => ∃ ρ3, p.1 = .next ρ3 ∧ OK (forM g b n ds ρ3 p.2) QS) : OK (forM g b n (d :: ds) ρ st) QS := by
  unfold forM
  rw [ok_bind]
  refine h.mono fun ρ2 h2 => ?_
  rw [ok_bind]
  refine h2.mono fun p hp => ?_
  obtain ⟨o, s⟩ := p
  obtain ⟨ρ3, e, q⟩ := hp
  cases (show o = _ from e)
  exact q
theorem for_nil {g : MG} {b : MS} {n : Nat} {ρ : Store} {st : State} {QS : Out × State → Prop} (h : QS (.next ρ, st)) : OK (forM g b n [] ρ st) QS := by
  unfold forM
  exact ok_some.mpr h
theorem ok_errN {C : String} {mA : MA} {ρ : Store} {st : State} {QE : D × State → Prop} (h : OK (mA ρ st) fun p => p.1.length ≤ 1000 ∧ QE (.exv C [] [], p.2)) : OK (mErrN C mA ρ st) QE := by
  unfold mErrN
  rw [ok_bind]
  exact h.mono fun p q => by
    rw [if_pos q.1]
    exact ok_some.mpr q.2
structure Three (st : State) (b : List D) (n N c : Nat) (t1 t2 t3 : D) : Prop where
  h0 : st[0]? = some b
  len : st.length = N
  a : ∃ d, Thg st n (n + 4) c t1 d
  b' : ∃ d, Thg st (n + 4) (n + 8) c t2 d
  c' : ∃ d, Thg st (n + 8) (n + 12) c t3 d
theorem again_ok {b : List D} {n N c : Nat} {t1 t2 t3 : D} {m : Nat} {x0 x1 x2 x7 x8 x9 x10 x11 : Option D} {st : State} (hn : 1 ≤ n) (hN : n + 12 ≤ N) (hc : c ≤ 1) (h : Three st b n N c t1 t2 t3) :
    OK ((sSeq (sIf (tNotM (tOf (mCallN 2 f_l_alikeE (aCons (mCallN 1 f_l_fields (aCons (mVar 6) aNil)) (aCons (mTup (aCons (m2 mulD (mLst (aCons (mVar 3) aNil)) (mC (.int 21))) (aCons (m2 mulD (mLst (aCons (mVar 4) aNil)) (mC (.int 3))) (aCons (mLst (aCons (mVar 5) aNil)) aNil)))) aNil))))) (sRet (mC (.bl false))) sNext)
  (sFor (iTupM (mTup (aCons (mVar 3) (aCons (mVar 4) (aCons (mVar 5) aNil))))) (gNameM 8) (sSeq (sIf (tOf (mN isD (aCons (mVar 8) (aCons (mC (.ty "list")) aNil)))) (sDrop (mApp (mVar 8) (mC (.str "new")))) sNext)
  (sIf (tOf (mN isD (aCons (mVar 8) (aCons (mC (.ty "dict")) aNil)))) (sSetDD (mC (.int 2)) (mVar 8) (mC (.str "b"))) sNext)))) m [x0, x1, x2, some t1, some t2, some t3, some (.lst (errs t1 t2 t3)), x7, x8, x9, x10, x11] st) fun q => ∃ st' y8, q = (.next [x0, x1, x2, some t1, some t2, some t3, some (.lst (errs t1 t2 t3)), x7, y8, x9, x10, x11], st') ∧ Three st' b n N (c + 1) t1 t2 t3 := by
  obtain ⟨h0, hl, ⟨d1, g1⟩, ⟨d2, g2⟩, ⟨d3, g3⟩⟩ := h
  have m21 : mulD st (.lst [t1]) (.int 21) = some (.lst (List.replicate 21 t1)) := by with_unfolding_all rfl
  have m3 : mulD st (.lst [t2]) (.int 3) = some (.lst (List.replicate 3 t2)) := by with_unfolding_all rfl
  have hal : f_l_alikeE [flds t1 t2 t3, .tup [.lst (List.replicate 21 t1), .lst (List.replicate 3 t2), .lst [t3]]] st = some (.bl true, st) := alikeE_ok (by omega) (by omega) (by omega) g1 g2 g3
  repeat (first | with_reducible refine ok_v fields_ok ?_ | with_reducible refine ok_v m21 ?_ | with_reducible refine ok_v m3 ?_ | with_reducible refine ok_v hal ?_ | walk_at "ask")
  refine for_cons (ok_gName ?_)
  walk_at "asknf"
  refine (grown_ok g1 hc (by omega)).mono ?_
  rintro _ ⟨s1, e1, rfl, k1, l1, o1⟩
  refine ⟨_, rfl, for_cons (ok_gName ?_)⟩
  walk_at "asknf"
  refine (grown_ok (g2.keep fun j z1 z2 => o1 j (by omega)) hc (by omega)).mono ?_
  rintro _ ⟨s2, e2, rfl, k2, l2, o2⟩
  refine ⟨_, rfl, for_cons (ok_gName ?_)⟩
  walk_at "asknf"
  refine (grown_ok (g3.keep fun j z1 z2 => (o2 j (by omega)).trans (o1 j (by omega))) hc (by omega)).mono ?_
  rintro _ ⟨s3, e3, rfl, k3, l3, o3⟩
  refine ⟨_, rfl, for_nil ?_⟩
  exact ⟨_, _, rfl, by rw [o3 0 (by omega), o2 0 (by omega), o1 0 (by omega), h0], (show s3.length = N by omega), ⟨_, k1.keep fun j z1 z2 => (o3 j (by omega)).trans (o2 j (by omega))⟩, ⟨_, k2.keep fun j z1 z2 => o3 j (by omega)⟩, ⟨_, k3⟩⟩
theorem law_ok (ns : List Int) : OK (f_law [.scr ns] []) fun p => p.1 = .bl true := by
  unfold f_law
  with_reducible (first | refine ok_f1 ?_ | refine ok_f2 ?_ | refine ok_f3 ?_ | refine ok_f4 ?_)
  unfold b_law
  walk_at "asknf"
  repeat (first | walk_at "ask")
  refine (bag_ok ns).mono ?_
  rintro _ ⟨b0, rfl, hb0⟩
  repeat (first | walk_at "ask")
  refine (ok_for (I := fun ρ s => ∃ b rest x0 x2 x3 x4 x5 x6 x7 x8 x9 x10 x11, s = b :: rest ∧ BagD b ∧ ρ = [x0, some (.own 0), x2, x3, x4, x5, x6, x7, x8, x9, x10, x11]) (R := fun _ _ => False) _ _ _ ⟨b0, [], _, _, _, _, _, _, _, _, _, _, _, rfl, hb0, rfl⟩ ?_).mono ?_
  · rintro d hd _ _ ⟨b, rest, x0, x2, x3, x4, x5, x6, x7, x8, x9, x10, x11, rfl, hb, rfl⟩
    repeat (first | refine ok_par3 ?_ | walk_at "ask")
    refine (thing_ok hb).mono ?_
    rintro _ ⟨b1, es1, t1, d1, rfl, l1, hb1, g1⟩
    repeat (first | walk_at "ask")
    refine (thing_ok hb1).mono ?_
    rintro _ ⟨b2, es2, t2, d2, rfl, l2, hb2, g2⟩
    repeat (first | walk_at "ask")
    refine (thing_ok hb2).mono ?_
    rintro _ ⟨b3, es3, t3, d3, rfl, l3, hb3, g3⟩
    repeat (first | with_reducible refine ok_v errors_ok ?_ | walk_at "ask")
    have h3 : Three (b3 :: (rest ++ es1 ++ es2 ++ es3)) b3 (rest.length + 1) (rest.length + 13) 0 t1 t2 t3 := by
      have a1 : ∀ (bb : List D) (tl : State) (j : Nat), rest.length + 1 ≤ j → j < rest.length + 5 → (bb :: (rest ++ es1 ++ es2 ++ es3))[j]? = (b1 :: (rest ++ es1))[j]? := fun bb tl j z1 z2 => by
        obtain ⟨j, rfl⟩ : ∃ k, j = k + 1 := ⟨j - 1, by omega⟩
        rw [List.getElem?_cons_succ, List.getElem?_cons_succ, List.append_assoc (rest ++ es1), List.getElem?_append_left (by rw [List.length_append]; omega)]
      have a2 : ∀ j, rest.length + 5 ≤ j → j < rest.length + 9 → (b3 :: (rest ++ es1 ++ es2 ++ es3))[j]? = (b2 :: (rest ++ es1 ++ es2))[j]? := fun j z1 z2 => by
        obtain ⟨j, rfl⟩ : ∃ k, j = k + 1 := ⟨j - 1, by omega⟩
        rw [List.getElem?_cons_succ, List.getElem?_cons_succ, List.getElem?_append_left (by simp only [List.length_append]; omega)]
      have e1 : (rest ++ es1).length + 1 = rest.length + 5 := by rw [List.length_append]; omega
      have e2 : (rest ++ es1 ++ es2).length + 1 = rest.length + 9 := by simp only [List.length_append]; omega
      have q2 : Thg (b2 :: (rest ++ es1 ++ es2)) (rest.length + 5) (rest.length + 9) 0 t2 d2 := by
        have := g2
        rw [e1, show (rest ++ es1).length + 5 = rest.length + 9 by omega] at this
        exact this
      have q3 : Thg (b3 :: (rest ++ es1 ++ es2 ++ es3)) (rest.length + 9) (rest.length + 13) 0 t3 d3 := by
        have := g3
        rw [e2, show (rest ++ es1 ++ es2).length + 5 = rest.length + 13 by omega] at this
        exact this
      exact ⟨rfl, by simp only [List.length_cons, List.length_append]; omega, ⟨_, g1.keep fun j z1 z2 => a1 b3 [] j z1 z2⟩, ⟨_, q2.keep fun j z1 z2 => a2 j z1 z2⟩, ⟨_, q3⟩⟩
    generalize b3 :: (rest ++ es1 ++ es2 ++ es3) = st at h3
    refine (ok_forC (R := fun _ _ => False) (I := fun k ρ s => ∃ x7 x8, Three s b3 (rest.length + 1) (rest.length + 13) k t1 t2 t3 ∧ ρ = [x0, some (.own 0), some d, some t1, some t2, some t3, some (.lst (errs t1 t2 t3)), x7, x8, x9, x10, x11]) _ 0 _ _ ⟨_, _, h3, rfl⟩ ?_).mono ?_
    · rintro d7 _ k _ s hk ⟨x7, x8, h4, rfl⟩
      have hk2 : k < 2 := by
        have : (upTo (Int.toNat 2)).length = 2 := by decide +kernel
        omega
      refine ok_gName ?_
      walk_at "asknf"
      refine (again_ok (by omega) (by omega) (by omega) h4).mono ?_
      rintro _ ⟨s2, y8, rfl, h5⟩
      exact ⟨_, _, h5, rfl⟩
    · rintro ⟨o, s⟩ ho
      cases o with
      | ret d => exact ho.elim
      | brk ρ => exact ho.elim
      | cont ρ => exact ho.elim
      | next ρ =>
        obtain ⟨x7, x8, h4, e2⟩ := ho
        cases e2
        have h4 : s[0]? = some b3 := h4.h0
        clear h3
        repeat (first | walk_at "ask")
        refine (ok_for (I := fun ρ s' => ∃ x9 x10 x11, s' = s ∧ ρ = [x0, some (.own 0), some d, some t1, some t2, some t3, some (.lst (errs t1 t2 t3)), x7, x8, x9, x10, x11]) (R := fun _ _ => False) _ _ _ ⟨_, _, _, rfl, rfl⟩ ?_).mono ?_
        · rintro z hz _ _ ⟨x9, x10, x11, rfl, rfl⟩
          obtain ⟨i, hi⟩ := List.mem_iff_getElem?.mp hz
          obtain ⟨y, hy, rfl⟩ := enum_get hi
          refine ok_gT2 ?_
          walk_at "asknf"
          refine (kind_ok hy).mono ?_
          rintro _ ⟨y11, rfl⟩
          exact ⟨_, _, _, rfl, rfl⟩
        · rintro ⟨o, s'⟩ ho
          cases o with
          | ret d => exact ho.elim
          | brk ρ => exact ho.elim
          | cont ρ => exact ho.elim
          | next ρ =>
            obtain ⟨x9, x10, x11, e1, e2⟩ := ho
            cases (show s' = _ from e1)
            cases e2
            have ka : ∀ S, f_l_kinds [.exv "AskError" [] []] S = some (.lst (List.replicate 28 (.bl false)), S) := fun S => by
              rw [kinds_ok (by decide +kernel), ask_row]
            have kv : ∀ S, isK knd "ValueError" true S (.exv "AskError" [] []) = some (.bl true) := fun S => by
              unfold isK
              dsimp only
              rw [if_pos (by decide +kernel), Bool.or_true]
            repeat (first | refine ok_errN ?_ | walk_at "ask")
            refine (ok_for (I := fun ρ s' => ∃ x10, s' = s ∧ ρ = [x0, some (.own 0), some d, some t1, some t2, some t3, some (.lst (errs t1 t2 t3)), x7, x8, x9, x10, x11]) (R := fun _ _ => False) _ _ _ ⟨_, rfl, rfl⟩ ?_).mono ?_
            · rintro z hz _ _ ⟨x10, rfl, rfl⟩
              have ez : z = .exv "AskError" [] [] := by simpa using hz
              subst ez
              refine ok_gName ?_
              walk_at "asknf"
              repeat (first | with_reducible refine ok_v (ka _) ?_ | with_reducible refine ok_v in_row ?_ | with_reducible refine ok_v (kv _) ?_ | walk_at "ask")
              exact ⟨_, rfl, rfl⟩
            · rintro ⟨o, s'⟩ ho
              cases o with
              | ret d => exact ho.elim
              | brk ρ => exact ho.elim
              | cont ρ => exact ho.elim
              | next ρ =>
                obtain ⟨x10, e1, e2⟩ := ho
                cases (show s' = _ from e1)
                cases e2
                cases s with
                | nil => cases h4
                | cons b4 rest4 =>
                  cases h4
                  exact ⟨_, _, _, _, _, _, _, _, _, _, _, _, _, rfl, hb3, rfl⟩
  · rintro ⟨o, s⟩ ho
    cases o with
    | ret d => exact ho.elim
    | brk ρ => exact ho.elim
    | cont ρ => exact ho.elim
    | next ρ =>
      obtain ⟨b, rest, x0, x2, x3, x4, x5, x6, x7, x8, x9, x10, x11, e1, hb, e2⟩ := ho
      cases (show s = _ from e1)
      cases e2
      repeat (first | walk_at "ask")
end Ask
open PySem PySem.Spec PySem.W PySem.Challenge PyProof.Rows L2
theorem PySem.Challenge.cw_askless_k11_errors_kept_holds : PySem.Challenge.rw_askless_k11_errors_kept.Holds := by
  exact Ask.lawEnd Ask.law_ok



